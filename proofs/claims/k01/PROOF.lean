import PyProof.Rows.All
import HandS.ForMost
import HandS.Exc
import HandS.TryOnly
import HandS.ExcOwn
import HandS.WordsExc
import HandS.Zip
import HandS.Gcd
import HandS.Wide
import HandS.IsInst
import HandS.Style
import HandS.Deep
import HandS.Conv
import HandS.TupAny
import HandS.TupMul
import HandS.SortInts
import HandS.Star
import PySem.Challenge.RW_wattkeep_k01_whole_systems
set_option Elab.async false
set_option linter.all false
set_option maxRecDepth 100000
/-! # Values without addresses, and when a heap holds them -/
namespace Wk
open PySem PySem.Spec L2

/-- data: a list is a value here; row is the one list that callees change (the law's draws), scr the script -/
inductive D where
  | non | bl (b : Bool) | int (i : Int) | str (x : Str)
  | tup (l : List D) | lst (l : List D) | dct (ks : List Key) (l : List D)
  | row | scr (l : List Int) | ty (n : String)

/-- a slot: nothing known, a shared value, a value of its own (its object may be changed) -/
inductive Sl where
  | no | sh (d : D) | ow (d : D)
abbrev Ro := Option (List D)
abbrev Env' := List Sl

mutual
def Rep (K : PySem.W.Frag) (r : Option Addr) (Z : Addr → Prop) (H : Hp) : D → V → Prop
  | .non, v => v = .non
  | .bl b, v => v = .bl b
  | .int i, v => v = .int i
  | .str x, v => v = .str x
  | .tup l, v => ∃ a vs, v = .ref a ∧ SqT K H a vs ∧ RepL K r Z H l vs
  | .lst l, v => ∃ a vs, v = .ref a ∧ Z a ∧ H a = some (.lst vs) ∧ RepL K r Z H l vs
  | .dct ks l, v => ∃ a vs, v = .ref a ∧ Z a ∧ H a = some (.dK (ks.zip vs)) ∧ ks.length = l.length ∧ RepL K r Z H l vs
  | .row, v => ∃ a, r = some a ∧ v = .ref a
  | .scr l, v => ∃ a, v = .ref a ∧ ((Z a ∧ Rd H a (.lst (l.map V.int))) ∨ ∀ H', SqL K H' a (l.map V.int))
  | .ty n, v => v = .ty n
def RepL (K : PySem.W.Frag) (r : Option Addr) (Z : Addr → Prop) (H : Hp) : List D → List V → Prop
  | [], vs => vs = []
  | d :: ds, vs => ∃ v t, vs = v :: t ∧ Rep K r Z H d v ∧ RepL K r Z H ds t
end

/-- what stands for good -/
def Imm : HO → Prop
  | .tup _ => True
  | .frz _ _ => True
  | _ => False
def Stay (Z : Addr → Prop) (H H' : Hp) : Prop := ∀ b o, H b = some o → (Z b ∨ Imm o) → H' b = some o
theorem Stay.refl {Z : Addr → Prop} {H : Hp} : Stay Z H H := fun _ _ h _ => h
theorem Stay.trans {Z Z' : Addr → Prop} {H H' H'' : Hp} (a : Stay Z H H') (b : Stay Z' H' H'') (s : ∀ x, Z x → Z' x) : Stay Z H H'' := fun x o h i =>
  b x o (a x o h i) (i.elim (fun z => .inl (s x z)) .inr)
theorem Stay.mono {Z Z' : Addr → Prop} {H H' : Hp} (a : Stay Z' H H') (s : ∀ x, Z x → Z' x) : Stay Z H H' := fun x o h i => a x o h (i.elim (fun z => .inl (s x z)) .inr)
section
variable {K : PySem.W.Frag} {r r' : Option Addr} {Z Z' : Addr → Prop} {H H' : Hp}
theorem sqT_stay {a : Addr} {vs : List V} (s : Stay Z H H') (h : SqT K H a vs) : SqT K H' a vs := by
  rcases h with (h | ⟨o, h⟩) | h
  · exact .inl (.inl (s a _ h (.inr trivial)))
  · exact .inl (.inr ⟨o, s a _ h (.inr trivial)⟩)
  · exact .inr h
theorem rd_stay {a : Addr} {vs : List V} (s : Stay Z H H') (z : Z a) (h : Rd H a (.lst vs)) : Rd H' a (.lst vs) := by
  rcases h with h | ⟨o, h⟩
  · exact .inl (s a _ h (.inl z))
  · exact .inr ⟨o, s a _ h (.inr trivial)⟩
mutual
theorem Rep.stay (s : Stay Z H H') (hz : ∀ b, Z b → Z' b) (hr : ∀ a, r = some a → r' = some a) : ∀ {d : D} {v : V}, Rep K r Z H d v → Rep K r' Z' H' d v
  | .non, _, h => by simpa [Rep] using h
  | .bl _, _, h => by simpa [Rep] using h
  | .int _, _, h => by simpa [Rep] using h
  | .str _, _, h => by simpa [Rep] using h
  | .ty _, _, h => by simpa [Rep] using h
  | .tup l, v, h => by
    simp only [Rep] at h ⊢
    obtain ⟨a, vs, e, q, l⟩ := h
    exact ⟨a, vs, e, sqT_stay s q, RepL.stay s hz hr l⟩
  | .lst l, v, h => by
    simp only [Rep] at h ⊢
    obtain ⟨a, vs, e, z, q, l⟩ := h
    exact ⟨a, vs, e, hz a z, s a _ q (.inl z), RepL.stay s hz hr l⟩
  | .dct ks l, v, h => by
    simp only [Rep] at h ⊢
    obtain ⟨a, vs, e, z, q, n, l⟩ := h
    exact ⟨a, vs, e, hz a z, s a _ q (.inl z), n, RepL.stay s hz hr l⟩
  | .row, v, h => by
    simp only [Rep] at h ⊢
    obtain ⟨a, q, e⟩ := h
    exact ⟨a, hr a q, e⟩
  | .scr l, v, h => by
    simp only [Rep] at h ⊢
    obtain ⟨a, e, q⟩ := h
    refine ⟨a, e, ?_⟩
    rcases q with ⟨z, q⟩ | q
    · exact .inl ⟨hz a z, rd_stay s z q⟩
    · exact .inr q
theorem RepL.stay (s : Stay Z H H') (hz : ∀ b, Z b → Z' b) (hr : ∀ a, r = some a → r' = some a) : ∀ {ds : List D} {vs : List V}, RepL K r Z H ds vs → RepL K r' Z' H' ds vs
  | [], _, h => by simpa [RepL] using h
  | d :: ds, vs, h => by
    simp only [RepL] at h ⊢
    obtain ⟨v, t, e, q, l⟩ := h
    exact ⟨v, t, e, Rep.stay s hz hr q, RepL.stay s hz hr l⟩
end
theorem RepL.nil : RepL K r Z H [] [] := by simp [RepL]
theorem RepL.cons {d : D} {v : V} {ds : List D} {vs : List V} (h : Rep K r Z H d v) (t : RepL K r Z H ds vs) : RepL K r Z H (d :: ds) (v :: vs) := by
  simp only [RepL]
  exact ⟨v, vs, rfl, h, t⟩
theorem RepL.length : ∀ {ds : List D} {vs : List V}, RepL K r Z H ds vs → ds.length = vs.length
  | [], _, h => by simp only [RepL] at h; subst h; rfl
  | d :: ds, vs, h => by
    simp only [RepL] at h
    obtain ⟨v, t, rfl, _, l⟩ := h
    simp [RepL.length l]
theorem RepL.get : ∀ {ds : List D} {vs : List V} {i : Nat} {d : D}, RepL K r Z H ds vs → ds[i]? = some d → ∃ v, vs[i]? = some v ∧ Rep K r Z H d v
  | [], _, _, _, _, e => by simp at e
  | d :: ds, vs, i, x, h, e => by
    simp only [RepL] at h
    obtain ⟨v, t, rfl, q, l⟩ := h
    cases i with
    | zero => simp at e; subst e; exact ⟨v, rfl, q⟩
    | succ i => simpa using RepL.get (i := i) l (by simpa using e)
theorem RepL.getV : ∀ {ds : List D} {vs : List V} {i : Nat} {v : V}, RepL K r Z H ds vs → vs[i]? = some v → ∃ d, ds[i]? = some d ∧ Rep K r Z H d v
  | [], vs, _, _, h, e => by simp only [RepL] at h; subst h; simp at e
  | d :: ds, vs, i, x, h, e => by
    simp only [RepL] at h
    obtain ⟨v, t, rfl, q, l⟩ := h
    cases i with
    | zero => simp at e; subst e; exact ⟨d, rfl, q⟩
    | succ i => simpa using RepL.getV (i := i) l (by simpa using e)
theorem RepL.append : ∀ {ds es : List D} {vs us : List V}, RepL K r Z H ds vs → RepL K r Z H es us → RepL K r Z H (ds ++ es) (vs ++ us)
  | [], _, vs, _, h, k => by simp only [RepL] at h; subst h; simpa using k
  | d :: ds, es, vs, us, h, k => by
    simp only [RepL] at h
    obtain ⟨v, t, rfl, q, l⟩ := h
    exact RepL.cons q (RepL.append l k)
theorem RepL.set : ∀ {ds : List D} {vs : List V} {d : D} {v : V} (i : Nat), RepL K r Z H ds vs → Rep K r Z H d v → RepL K r Z H (ds.set i d) (vs.set i v)
  | [], vs, _, _, _, h, _ => by simp only [RepL] at h; subst h; exact RepL.nil
  | d :: ds, vs, x, u, i, h, k => by
    simp only [RepL] at h
    obtain ⟨v, t, rfl, q, l⟩ := h
    cases i with
    | zero => exact RepL.cons k l
    | succ i => exact RepL.cons q (RepL.set i l k)
theorem RepL.drop : ∀ {ds : List D} {vs : List V} (n : Nat), RepL K r Z H ds vs → RepL K r Z H (ds.drop n) (vs.drop n)
  | _, _, 0, h => by simpa using h
  | [], vs, n + 1, h => by simp only [RepL] at h; subst h; exact RepL.nil
  | d :: ds, vs, n + 1, h => by
    simp only [RepL] at h
    obtain ⟨v, t, rfl, q, l⟩ := h
    exact RepL.drop n l
theorem RepL.take : ∀ {ds : List D} {vs : List V} (n : Nat), RepL K r Z H ds vs → RepL K r Z H (ds.take n) (vs.take n)
  | _, _, 0, h => by simpa using RepL.nil
  | [], vs, n + 1, h => by simp only [RepL] at h; subst h; exact RepL.nil
  | d :: ds, vs, n + 1, h => by
    simp only [RepL] at h
    obtain ⟨v, t, rfl, q, l⟩ := h
    exact RepL.cons q (RepL.take n l)
end

/-! ### the state -/
/-- what is fixed while a def runs: the written part, the names of the module, the heap and the zone at the entry -/
structure Fx where
  K : PySem.W.Frag
  mg : Str → Option Value
  H0 : Hp
  Z0 : Addr → Prop

/-- the heap's part: what was tracked at the entry stands but for the row; Z: what nobody will change any more -/
structure Core (F : Fx) (r : Option Addr) (Z : Addr → Prop) (H : Hp) (W : Ro) : Prop where
  ext : ∀ b o, F.H0 b = some o → r ≠ some b → H b = some o
  zin : ∀ b, Z b → (∃ o, H b = some o) ∧ r ≠ some b
  zfr : ∀ b, Z b → F.Z0 b ∨ F.H0 b = none
  row : match W with
    | none => r = none
    | some w => ∃ a vs, r = some a ∧ H a = some (.lst vs) ∧ RepL F.K r Z H w vs

/-- the object at a holds d's own content -/
def Body (K : PySem.W.Frag) (r : Option Addr) (Z : Addr → Prop) (H : Hp) (d : D) (a : Addr) : Prop :=
  match d with
  | .lst l => ∃ vs, H a = some (.lst vs) ∧ RepL K r Z H l vs
  | .dct ks l => ∃ vs, H a = some (.dK (ks.zip vs)) ∧ ks.length = l.length ∧ RepL K r Z H l vs
  | _ => False
structure Own (F : Fx) (r : Option Addr) (Z : Addr → Prop) (H : Hp) (d : D) (a : Addr) : Prop where
  nz : ¬ Z a
  nr : r ≠ some a
  n0 : F.H0 a = none
  body : Body F.K r Z H d a

structure Sim (F : Fx) (r : Option Addr) (Z : Addr → Prop) (σ : St) (H : Hp) (ρ : Env') (W : Ro) : Prop where
  core : Core F r Z H W
  len : σ.length = ρ.length
  sh : ∀ (i : Nat) (d : D), ρ[i]? = some (.sh d) → ∃ v, σ[i]? = some (some v) ∧ Rep F.K r Z H d v
  ow : ∀ (i : Nat) (d : D), ρ[i]? = some (.ow d) → ∃ a, σ[i]? = some (some (.ref a)) ∧ Own F r Z H d a
  dis : ∀ (i j : Nat) (d e : D) (a : Addr), ρ[i]? = some (.ow d) → ρ[j]? = some (.ow e) → σ[i]? = some (some (.ref a)) → σ[j]? = some (some (.ref a)) → i = j

/-- how a value comes: shared, a slot's own object (read only), a new object that nobody else holds -/
inductive Kd where
  | sh | bo | fr
  deriving DecidableEq

/-- behind an expression -/
structure EPost (F : Fx) (r : Option Addr) (Z Z' : Addr → Prop) (σ : St) (H H' : Hp) (ρ : Env') (W' : Ro) : Prop where
  sim : Sim F r Z' σ H' ρ W'
  sub : ∀ b, Z b → Z' b
  grow : ∀ b, Z' b → Z b ∨ H b = none
  keep : ∀ b o, H b = some o → r ≠ some b → H' b = some o

def RepK (F : Fx) (r : Option Addr) (Z : Addr → Prop) (σ : St) (H : Hp) (ρ : Env') : Kd → D → V → Prop
  | .sh, d, v => Rep F.K r Z H d v
  | .bo, d, v => ∃ a, v = .ref a ∧ Own F r Z H d a
  | .fr, d, v => ∃ a, v = .ref a ∧ Own F r Z H d a ∧ ∀ (i : Nat) (d' : D), ρ[i]? = some (.ow d') → σ[i]? ≠ some (some (.ref a))

section
variable {F : Fx} {r : Option Addr} {Z Z' Z'' : Addr → Prop} {σ : St} {H H' H'' : Hp} {ρ : Env'} {W W' W'' : Ro}
theorem Sim.rtrk (s : Sim F r Z σ H ρ W) {a : Addr} (e : r = some a) : ∃ vs, H a = some (.lst vs) := by
  have h := s.core.row
  cases W with
  | none => simp only at h; rw [h] at e; cases e
  | some w =>
    obtain ⟨b, vs, e', q, _⟩ := h
    rw [e'] at e; cases e
    exact ⟨vs, q⟩
/-- what an expression keeps -/
theorem EPost.stay (p : EPost F r Z Z' σ H H' ρ W') (s : Sim F r Z σ H ρ W) : Stay Z H H' := fun b o h i => by
  refine p.keep b o h fun e => ?_
  rcases i with z | z
  · exact (s.core.zin b z).2 e
  · obtain ⟨vs, q⟩ := s.rtrk e
    rw [q] at h; cases h; exact z
theorem EPost.refl (s : Sim F r Z σ H ρ W) : EPost F r Z Z σ H H ρ W := ⟨s, fun _ z => z, fun _ z => .inl z, fun _ _ h _ => h⟩
theorem EPost.none (p : EPost F r Z Z' σ H H' ρ W') {b : Addr} (h : H' b = none) : H b = none := by
  cases q : H b with
  | none => rfl
  | some o =>
    by_cases e : r = some b
    · obtain ⟨vs, z⟩ := p.sim.rtrk e
      rw [h] at z; cases z
    · rw [p.keep b o q e] at h; cases h
theorem EPost.trans (p : EPost F r Z Z' σ H H' ρ W') (q : EPost F r Z' Z'' σ H' H'' ρ W'') : EPost F r Z Z'' σ H H'' ρ W'' :=
  ⟨q.sim, fun b z => q.sub b (p.sub b z), fun b z => (q.grow b z).elim (p.grow b) fun n => .inr (p.none n), fun b o h n => q.keep b o (p.keep b o h n) n⟩
theorem Rep.later (p : EPost F r Z Z' σ H H' ρ W') (s : Sim F r Z σ H ρ W) {d : D} {v : V} (h : Rep F.K r Z H d v) : Rep F.K r Z' H' d v := Rep.stay (p.stay s) p.sub (fun _ e => e) h
theorem RepL.later (p : EPost F r Z Z' σ H H' ρ W') (s : Sim F r Z σ H ρ W) {d : List D} {v : List V} (h : RepL F.K r Z H d v) : RepL F.K r Z' H' d v := RepL.stay (p.stay s) p.sub (fun _ e => e) h
theorem Body.trk {K : PySem.W.Frag} {d : D} {a : Addr} (h : Body K r Z H d a) : ∃ o, H a = some o := by
  cases d with
  | lst l => obtain ⟨vs, e, _⟩ := h; exact ⟨_, e⟩
  | dct ks l => obtain ⟨vs, e, _⟩ := h; exact ⟨_, e⟩
  | _ => exact h.elim
theorem Body.stay {K : PySem.W.Frag} {d : D} {a : Addr} (s : Stay Z H H') (hz : ∀ b, Z b → Z' b) (ha : ∀ o, H a = some o → H' a = some o) (h : Body K r Z H d a) : Body K r Z' H' d a := by
  cases d with
  | lst l => obtain ⟨vs, e, q⟩ := h; exact ⟨vs, ha _ e, q.stay s hz fun _ e => e⟩
  | dct ks l => obtain ⟨vs, e, n, q⟩ := h; exact ⟨vs, ha _ e, n, q.stay s hz fun _ e => e⟩
  | _ => exact h.elim
theorem Own.later (p : EPost F r Z Z' σ H H' ρ W') (s : Sim F r Z σ H ρ W) {d : D} {a : Addr} (h : Own F r Z H d a) : Own F r Z' H' d a := by
  obtain ⟨o, e⟩ := h.body.trk
  refine ⟨fun z => ?_, h.nr, h.n0, h.body.stay (p.stay s) p.sub fun o e => p.keep a o e h.nr⟩
  rcases p.grow a z with z | z
  · exact h.nz z
  · rw [e] at z; cases z
theorem RepK.later (p : EPost F r Z Z' σ H H' ρ W') (s : Sim F r Z σ H ρ W) : ∀ {k : Kd} {d : D} {v : V}, RepK F r Z σ H ρ k d v → RepK F r Z' σ H' ρ k d v
  | .sh, d, v, h => Rep.later (d := d) (v := v) p s h
  | .bo, d, v, h => let ⟨a, e, o⟩ := h; ⟨a, e, o.later p s⟩
  | .fr, d, v, h => let ⟨a, e, o, q⟩ := h; ⟨a, e, o.later p s, q⟩
/-- a new object that joins what nobody changes -/
theorem freeze (s : Sim F r Z σ H ρ W) {d : D} {a : Addr} (o : Own F r Z H d a) (h : ∀ (i : Nat) (d' : D), ρ[i]? = some (.ow d') → σ[i]? ≠ some (some (.ref a))) :
    Sim F r (fun b => Z b ∨ b = a) σ H ρ W ∧ Rep F.K r (fun b => Z b ∨ b = a) H d (.ref a) := by
  have hz : ∀ b, Z b → (Z b ∨ b = a) := fun _ z => .inl z
  refine ⟨⟨⟨s.core.ext, fun b z => ?_, fun b z => ?_, ?_⟩, s.len, fun i d e => ?_, fun i d' e => ?_, s.dis⟩, ?_⟩
  · rcases z with z | rfl
    · exact s.core.zin b z
    · exact ⟨o.body.trk, o.nr⟩
  · rcases z with z | rfl
    · exact s.core.zfr b z
    · exact .inr o.n0
  · have q := s.core.row
    cases W with
    | none => exact q
    | some w => obtain ⟨b, vs, e, e2, l⟩ := q; exact ⟨b, vs, e, e2, l.stay Stay.refl hz fun _ e => e⟩
  · obtain ⟨v, e1, q⟩ := s.sh i d e
    exact ⟨v, e1, q.stay Stay.refl hz fun _ e => e⟩
  · obtain ⟨b, e1, q⟩ := s.ow i d' e
    refine ⟨b, e1, ⟨fun z => ?_, q.nr, q.n0, q.body.stay Stay.refl hz fun _ e => e⟩⟩
    rcases z with z | rfl
    · exact q.nz z
    · exact h i d' e e1
  · have b := o.body
    cases d with
    | lst l =>
      obtain ⟨vs, e, q⟩ := b
      simp only [Rep]
      exact ⟨a, vs, rfl, .inr rfl, e, q.stay Stay.refl hz fun _ e => e⟩
    | dct ks l =>
      obtain ⟨vs, e, n, q⟩ := b
      simp only [Rep]
      exact ⟨a, vs, rfl, .inr rfl, e, n, q.stay Stay.refl hz fun _ e => e⟩
    | _ => exact b.elim
/-- a new object laid -/
theorem laid (s : Sim F r Z σ H ρ W) {p : Addr} {o : HO} (n : H p = none) : EPost F r Z Z σ H (upd H p o) ρ W := by
  have kp : ∀ b u, H b = some u → upd H p o b = some u := fun b u h => by rw [upd_ne (ne_of_none h n)]; exact h
  have st : Stay Z H (upd H p o) := fun b u h _ => kp b u h
  refine ⟨⟨⟨fun b u h k => kp b u (s.core.ext b u h k), fun b z => ?_, s.core.zfr, ?_⟩, s.len, fun i d e => ?_, fun i d e => ?_, s.dis⟩, fun _ z => z, fun _ z => .inl z, fun b u h _ => kp b u h⟩
  · obtain ⟨⟨u, e⟩, q⟩ := s.core.zin b z
    exact ⟨⟨u, kp b u e⟩, q⟩
  · have q := s.core.row
    cases W with
    | none => exact q
    | some w => obtain ⟨b, vs, e, e2, l⟩ := q; exact ⟨b, vs, e, kp _ _ e2, l.stay st (fun _ z => z) fun _ e => e⟩
  · obtain ⟨v, e1, q⟩ := s.sh i d e
    exact ⟨v, e1, q.stay st (fun _ z => z) fun _ e => e⟩
  · obtain ⟨b, e1, q⟩ := s.ow i d e
    exact ⟨b, e1, ⟨q.nz, q.nr, q.n0, q.body.stay st (fun _ z => z) fun o e => kp b o e⟩⟩
/-- .. a new list -/
theorem laid_own (s : Sim F r Z σ H ρ W) {p : Addr} {l : List D} {vs : List V} (n : H p = none) (h : RepL F.K r Z H l vs) :
    Own F r Z (upd H p (.lst vs)) (.lst l) p ∧ ∀ (i : Nat) (d' : D), ρ[i]? = some (.ow d') → σ[i]? ≠ some (some (.ref p)) := by
  have st : Stay Z H (upd H p (.lst vs)) := fun b u h _ => by rw [upd_ne (ne_of_none h n)]; exact h
  refine ⟨⟨fun z => ?_, fun e => ?_, ?_, ⟨vs, upd_same, h.stay st (fun _ z => z) fun _ e => e⟩⟩, fun i d' e e2 => ?_⟩
  · obtain ⟨⟨u, q⟩, _⟩ := s.core.zin p z
    rw [n] at q; cases q
  · obtain ⟨vs, q⟩ := s.rtrk e
    rw [n] at q; cases q
  · cases q : F.H0 p with
    | none => rfl
    | some o =>
      rw [s.core.ext p o q fun e => ?_] at n
      · cases n
      · obtain ⟨vs, q⟩ := s.rtrk e
        rw [n] at q; cases q
  · obtain ⟨a, e1, q⟩ := s.ow i d' e
    rw [e1] at e2; cases e2
    obtain ⟨o, z⟩ := q.body.trk
    rw [n] at z; cases z
end
end Wk

set_option Elab.async false
set_option linter.all false
set_option maxRecDepth 100000
set_option maxHeartbeats 1000000
/-! # What expressions mean, and that the model does it: the general rules -/
namespace Wk
open PySem PySem.Spec L2

/-- a value, how it comes, the row behind it; or an error of the class named c -/
inductive ER where
  | val (d : D) (k : Kd) (W : Ro)
  | exc (c : Str) (W : Ro)
abbrev Sm := Env' → Ro → Option ER

def EvAt (F : Fx) (Wx : WX) (r : Option Addr) (Z : Addr → Prop) (σ : St) (H : Hp) (ρ : Env') (Q : VK) : Option ER → Prop
  | none => False
  | some (.val d k W') => ∀ v H' Z', EPost F r Z Z' σ H H' ρ W' → RepK F r Z' σ H' ρ k d v → (k = .fr → ∀ a, v = .ref a → H a = none) → Q v H'
  | some (.exc c W') => ∀ H' Z' C, EPost F r Z Z' σ H H' ρ W' → F.mg c = some (.ref C) → Wx (.ref C) none σ H'
def tE (F : Fx) (Wx : WX) (f : Sm) : TE := fun σ H Q => ∃ r Z ρ W, Sim F r Z σ H ρ W ∧ EvAt F Wx r Z σ H ρ Q (f ρ W)
/-- a test's -/
def EvB (F : Fx) (Wx : WX) (r : Option Addr) (Z : Addr → Prop) (σ : St) (H : Hp) (ρ : Env') (Q : Bool → Hp → Prop) : Option ER → Prop
  | some (.val (.bl b) _ W') => ∀ H' Z', EPost F r Z Z' σ H H' ρ W' → Q b H'
  | some (.exc c W') => ∀ H' Z' C, EPost F r Z Z' σ H H' ρ W' → F.mg c = some (.ref C) → Wx (.ref C) none σ H'
  | _ => False
def tT (F : Fx) (Wx : WX) (f : Sm) : TT := fun σ H Q => ∃ r Z ρ W, Sim F r Z σ H ρ W ∧ EvB F Wx r Z σ H ρ Q (f ρ W)

/-- one after another -/
def cBind (f : Sm) (g : D → Kd → Sm) : Sm := fun ρ W =>
  match f ρ W with
  | none => none
  | some (.exc c W') => some (.exc c W')
  | some (.val d k W') => g d k ρ W'
def cVal (o : Option (D × Kd)) : Sm := fun _ W => o.map fun p => .val p.1 p.2 W
def cVar (i : Nat) : Sm := fun ρ W =>
  match ρ[i]? with
  | some (.sh d) => some (.val d .sh W)
  | some (.ow d) => some (.val d .bo W)
  | _ => none
def cC (d : D) : Sm := fun _ W => some (.val d .sh W)
/-- a value that is to be kept: a new one is shared from now on, a slot's own may not be -/
def cFr (f : Sm) : Sm := cBind f fun d k => cVal (if k = .bo then none else some (d, .sh))
def c1 (p : D → Option (D × Kd)) (f : Sm) : Sm := cBind f fun d _ => cVal (p d)
def c2 (p : Ro → D → D → Option (D × Kd)) (f g : Sm) : Sm := cBind f fun d _ => cBind g fun e _ => fun ρ W => cVal (p W d e) ρ W
def cIf (c a b : Sm) : Sm := cBind c fun d _ => match d with | .bl true => a | .bl false => b | _ => fun _ _ => none
def cAnd (a b : Sm) : Sm := cBind a fun d _ => match d with | .bl true => b | .bl false => cVal (some (.bl false, .sh)) | _ => fun _ _ => none
def cOr (a b : Sm) : Sm := cBind a fun d _ => match d with | .bl true => cVal (some (.bl true, .sh)) | .bl false => b | _ => fun _ _ => none
def cNot (a : Sm) : Sm := cBind a fun d _ => match d with | .bl b => cVal (some (.bl !b, .sh)) | _ => fun _ _ => none

section
variable {F : Fx} {Wx : WX} {r : Option Addr} {Z Z' Z1 : Addr → Prop} {σ : St} {H H' H1 : Hp} {ρ : Env'} {W W' W1 : Ro} {Q Q' : VK} {f g : Sm}
theorem EvAt.mono (h : EvAt F Wx r Z σ H ρ Q o) (q : ∀ v H', Q v H' → Q' v H') : EvAt F Wx r Z σ H ρ Q' o := by
  cases o with
  | none => exact h
  | some e => cases e with
    | val d k W' => exact fun v H' Z' a b c => q _ _ (h v H' Z' a b c)
    | exc c W' => exact h
theorem tE_mono (h : tE F Wx f σ H Q) (q : ∀ v H', Q v H' → Q' v H') : tE F Wx f σ H Q' :=
  let ⟨r, Z, ρ, W, s, h⟩ := h; ⟨r, Z, ρ, W, s, h.mono q⟩
/-- behind a first part -/
theorem EvAt.later (s : Sim F r Z σ H ρ W) (p : EPost F r Z Z1 σ H H1 ρ W1) (h : EvAt F Wx r Z σ H ρ Q o) : EvAt F Wx r Z1 σ H1 ρ Q o := by
  cases o with
  | none => exact h
  | some e => cases e with
    | val d k W' => exact fun v H' Z' a b c => h v H' Z' (p.trans a) b fun e a' q => p.none (c e a' q)
    | exc c W' => exact fun H' Z' C a b => h H' Z' C (p.trans a) b
/-- THE STEP: the first part, and what is known for the rest -/
theorem tE_bind {k : D → Kd → Sm} (s : Sim F r Z σ H ρ W) (h : EvAt F Wx r Z σ H ρ Q (cBind f k ρ W)) :
    tE F Wx f σ H fun v H1 => ∃ Z1 d kd W1, EPost F r Z Z1 σ H H1 ρ W1 ∧ RepK F r Z1 σ H1 ρ kd d v ∧ (kd = .fr → ∀ a, v = .ref a → H a = none) ∧ EvAt F Wx r Z1 σ H1 ρ Q (k d kd ρ W1) := by
  refine ⟨r, Z, ρ, W, s, ?_⟩
  unfold cBind at h
  cases e : f ρ W with
  | none => rw [e] at h; exact h
  | some o =>
    rw [e] at h
    cases o with
    | exc c W' => exact h
    | val d kd W' => exact fun v H' Z' p q fr => ⟨Z', d, kd, W', p, q, fr, EvAt.later s p h⟩
theorem EvAt.val {d : D} {k : Kd} (h : EvAt F Wx r Z σ H ρ Q (cVal o ρ W)) : ∃ d k, o = some (d, k) ∧ ∀ v H' Z', EPost F r Z Z' σ H H' ρ W → RepK F r Z' σ H' ρ k d v → (k = .fr → ∀ a, v = .ref a → H a = none) → Q v H' := by
  unfold cVal at h
  cases o with
  | none => exact h.elim
  | some p => exact ⟨p.1, p.2, rfl, h⟩
theorem PE.imp {X : Cx} {e : Expr} {t t' : TE} (h : PE X e t) (i : ∀ σ H Q, t' σ H Q → t σ H Q) : PE X e t' := ⟨fun pins s σ H Q I q => h.run pins s σ H Q I (i σ H Q q)⟩
theorem PT.imp {X : Cx} {e : Expr} {t t' : TT} (h : PT X e t) (i : ∀ σ H Q, t' σ H Q → t σ H Q) : PT X e t' := ⟨fun pins s σ H Q I q => h.run pins s σ H Q I (i σ H Q q)⟩
theorem PW.imp {X : Cx} {e : Expr} {t t' : TT} (h : PW X e t) (i : ∀ σ H Q, t' σ H Q → t σ H Q) : PW X e t' := ⟨fun wh pins s σ H Q I q => h.run wh pins s σ H Q I (i σ H Q q)⟩
/-- from a test's meaning to its value's -/
theorem tE_of_tT {Q : Bool → Hp → Prop} (h : tT F Wx f σ H Q) : tE F Wx f σ H fun x H1 => ∃ c, x = .bl c ∧ Q c H1 := by
  obtain ⟨r, Z, ρ, W, s, h⟩ := h
  refine ⟨r, Z, ρ, W, s, ?_⟩
  cases e : f ρ W with
  | none => rw [e] at h; exact h.elim
  | some o =>
    rw [e] at h
    cases o with
    | exc c W' => exact h
    | val d kd W' =>
      cases d with
      | bl b =>
        intro v H' Z' p q _
        cases kd with
        | sh => exact ⟨b, by simpa [RepK, Rep] using q, h H' Z' p⟩
        | bo => obtain ⟨a, _, o⟩ := q; exact o.body.elim
        | fr => obtain ⟨a, _, o, _⟩ := q; exact o.body.elim
      | _ => exact h.elim
/-- the test's step -/
theorem EvB.later {Q : Bool → Hp → Prop} (p : EPost F r Z Z1 σ H H1 ρ W1) (h : EvB F Wx r Z σ H ρ Q o) : EvB F Wx r Z1 σ H1 ρ Q o := by
  cases o with
  | none => exact h
  | some e => cases e with
    | val d k W' =>
      cases d with
      | bl b => exact fun H' Z' a => h H' Z' (p.trans a)
      | _ => exact h
    | exc c W' => exact fun H' Z' C a b => h H' Z' C (p.trans a) b
theorem tT_bindE {k : D → Kd → Sm} {Q : Bool → Hp → Prop} (s : Sim F r Z σ H ρ W) (h : EvB F Wx r Z σ H ρ Q (cBind f k ρ W)) :
    tE F Wx f σ H fun v H1 => ∃ Z1 d kd W1, EPost F r Z Z1 σ H H1 ρ W1 ∧ RepK F r Z1 σ H1 ρ kd d v ∧ EvB F Wx r Z1 σ H1 ρ Q (k d kd ρ W1) := by
  refine ⟨r, Z, ρ, W, s, ?_⟩
  unfold cBind at h
  cases e : f ρ W with
  | none => rw [e] at h; exact h
  | some o =>
    rw [e] at h
    cases o with
    | exc c W' => exact h
    | val d kd W' => exact fun v H' Z' p q fr => ⟨Z', d, kd, W', p, q, EvB.later p h⟩
/-- a bool's branches: after a test -/
theorem tT_bindB {k : Bool → Sm} {Q : Bool → Hp → Prop} (s : Sim F r Z σ H ρ W)
    (h : EvB F Wx r Z σ H ρ Q (cBind f (fun d _ => match d with | .bl b => k b | _ => fun _ _ => none) ρ W)) :
    tT F Wx f σ H fun b H1 => ∃ Z1 W1, EPost F r Z Z1 σ H H1 ρ W1 ∧ EvB F Wx r Z1 σ H1 ρ Q (k b ρ W1) := by
  refine ⟨r, Z, ρ, W, s, ?_⟩
  unfold cBind at h
  cases e : f ρ W with
  | none => rw [e] at h; exact h
  | some o =>
    rw [e] at h
    cases o with
    | exc c W' => exact h
    | val d kd W' =>
      cases d with
      | bl b => exact fun H' Z' p => ⟨Z', W', p, EvB.later p h⟩
      | _ => exact h
theorem tE_bindB {k : Bool → Sm} (s : Sim F r Z σ H ρ W)
    (h : EvAt F Wx r Z σ H ρ Q (cBind f (fun d _ => match d with | .bl b => k b | _ => fun _ _ => none) ρ W)) :
    tT F Wx f σ H fun b H1 => ∃ Z1 W1, EPost F r Z Z1 σ H H1 ρ W1 ∧ EvAt F Wx r Z1 σ H1 ρ Q (k b ρ W1) := by
  refine ⟨r, Z, ρ, W, s, ?_⟩
  unfold cBind at h
  cases e : f ρ W with
  | none => rw [e] at h; exact h
  | some o =>
    rw [e] at h
    cases o with
    | exc c W' => exact h
    | val d kd W' =>
      cases d with
      | bl b => exact fun H' Z' p => ⟨Z', W', p, EvAt.later s p h⟩
      | _ => exact h
end
theorem tT_mono {F : Fx} {Wx : WX} {f : Sm} {σ : St} {H : Hp} {Q Q' : Bool → Hp → Prop} (h : tT F Wx f σ H Q) (q : ∀ v H', Q v H' → Q' v H') : tT F Wx f σ H Q' := by
  obtain ⟨r, Z, ρ, W, s, h⟩ := h
  refine ⟨r, Z, ρ, W, s, ?_⟩
  cases e : f ρ W with
  | none => rw [e] at h; exact h
  | some o =>
    rw [e] at h
    cases o with
    | exc c W' => exact h
    | val d kd W' =>
      cases d with
      | bl b => exact fun H' Z' p => q _ _ (h H' Z' p)
      | _ => exact h

/-! ### the general rules -/
section
variable {F : Fx} {Wx : WX} {X : Cx} {e e1 e2 : Expr} {f f1 f2 : Sm} {pos : Pos}
theorem pE_var {i : Nat} {x : Str} (hN : X.N[i]? = some x) (hv : Vis X.env.scope x) (hd : (x == ("__debug__" : Str)) = false) (hcd : (x == ("__classdict__" : Str)) = false) : PE X (.Name x pos) (tE F Wx (cVar i)) := by
  refine PE.imp (pe_var hN hv hd hcd) fun σ H Q ⟨r, Z, ρ, W, s, h⟩ => ?_
  unfold cVar at h
  split at h
  · rename_i d e
    obtain ⟨v, e1, q⟩ := s.sh i d e
    exact ⟨v, e1, h v H Z (EPost.refl s) q fun z => nomatch z⟩
  · rename_i d e
    obtain ⟨a, e1, q⟩ := s.ow i d e
    exact ⟨_, e1, h _ H Z (EPost.refl s) ⟨a, rfl, q⟩ fun z => nomatch z⟩
  · exact h.elim
theorem pE_const {d : D} {v : V} (h : PE X e (tC v)) (hr : ∀ r Z H, Rep F.K r Z H d v) : PE X e (tE F Wx (cC d)) := by
  refine PE.imp h fun σ H Q ⟨r, Z, ρ, W, s, h⟩ => ?_
  exact h v H Z (EPost.refl s) (hr r Z H) fun z => nomatch z
theorem EPost.freeze {r : Option Addr} {Z Z1 : Addr → Prop} {σ : St} {H H1 : Hp} {ρ : Env'} {W1 : Ro} {d : D} {a : Addr} (p : EPost F r Z Z1 σ H H1 ρ W1) (o : Own F r Z1 H1 d a)
    (h : ∀ (i : Nat) (d' : D), ρ[i]? = some (.ow d') → σ[i]? ≠ some (some (.ref a))) (n : H a = Option.none) :
    EPost F r Z (fun b => Z1 b ∨ b = a) σ H H1 ρ W1 ∧ Rep F.K r (fun b => Z1 b ∨ b = a) H1 d (.ref a) := by
  obtain ⟨s2, q2⟩ := Wk.freeze p.sim o h
  exact ⟨⟨s2, fun b z => .inl (p.sub b z), fun b z => z.elim (p.grow b) fun e => .inr (e ▸ n), p.keep⟩, q2⟩
theorem tE_fr {σ : St} {H : Hp} {Q : VK} (h : tE F Wx (cFr f) σ H Q) : tE F Wx f σ H Q := by
  obtain ⟨r, Z, ρ, W, s, h⟩ := h
  refine ⟨r, Z, ρ, W, s, ?_⟩
  unfold cFr cBind at h
  cases e : f ρ W with
  | none => rw [e] at h; exact h
  | some o =>
    rw [e] at h
    cases o with
    | exc c W' => exact h
    | val d kd W' =>
      intro v H' Z' p q fr
      cases kd with
      | bo => exact h.elim
      | sh => exact h v H' Z' p q fun z => nomatch z
      | fr =>
        obtain ⟨a, rfl, o, ho⟩ := q
        obtain ⟨p2, q2⟩ := p.freeze o ho (fr rfl a rfl)
        exact h (.ref a) H' _ p2 q2 fun z => nomatch z
theorem pE_fr (h : PE X e (tE F Wx f)) : PE X e (tE F Wx (cFr f)) := PE.imp h fun _ _ _ => tE_fr

/-! ### primitives by values -/
def Prim1 (F : Fx) (rr : V → Hp → VK → Prop) (p : D → Option (D × Kd)) : Prop :=
  ∀ {r : Option Addr} {Z : Addr → Prop} {σ : St} {H : Hp} {ρ : Env'} {W : Ro} {x : D} {kx : Kd} {vx : V} {z : D} {kz : Kd} {Q : VK}, Sim F r Z σ H ρ W → RepK F r Z σ H ρ kx x vx → p x = some (z, kz) →
    (∀ v H' Z', EPost F r Z Z' σ H H' ρ W → RepK F r Z' σ H' ρ kz z v → (kz = .fr → ∀ a, v = .ref a → H a = none) → Q v H') → rr vx H Q
def Prim2 (F : Fx) (rr : R2) (p : Ro → D → D → Option (D × Kd)) : Prop :=
  ∀ {r : Option Addr} {Z : Addr → Prop} {σ : St} {H : Hp} {ρ : Env'} {W : Ro} {x y : D} {kx ky : Kd} {vx vy : V} {z : D} {kz : Kd} {Q : VK}, Sim F r Z σ H ρ W → RepK F r Z σ H ρ kx x vx → RepK F r Z σ H ρ ky y vy → p W x y = some (z, kz) →
    (∀ v H' Z', EPost F r Z Z' σ H H' ρ W → RepK F r Z' σ H' ρ kz z v → (kz = .fr → ∀ a, v = .ref a → H a = none) → Q v H') → rr vx vy H Q
theorem tE_c1 {rr : V → Hp → VK → Prop} {p : D → Option (D × Kd)} (hp : Prim1 F rr p) {σ : St} {H : Hp} {Q : VK} (h : tE F Wx (c1 p f) σ H Q) : tUn rr (tE F Wx f) σ H Q := by
  obtain ⟨r, Z, ρ, W, s, h⟩ := h
  refine tE_mono (tE_bind s h) fun v H1 ⟨Z1, d, kd, W1, p1, q, fr, h⟩ => ?_
  obtain ⟨d', k', e, h⟩ := EvAt.val (d := d) (k := kd) h
  exact hp p1.sim q e h
theorem tE_c2 {rr : R2} {p : Ro → D → D → Option (D × Kd)} (hp : Prim2 F rr p) {σ : St} {H : Hp} {Q : VK} (h : tE F Wx (c2 p f1 f2) σ H Q) : tOp rr (tE F Wx f1) (tE F Wx f2) σ H Q := by
  obtain ⟨r, Z, ρ, W, s, h⟩ := h
  refine tE_mono (tE_bind s h) fun v H1 ⟨Z1, d, kd, W1, p1, q, fr, h⟩ => ?_
  refine tE_mono (tE_bind p1.sim h) fun u H2 ⟨Z2, e, ke, W2, p2, q2, fr2, h⟩ => ?_
  obtain ⟨d', k', e', h⟩ := EvAt.val (d := d) (k := kd) h
  exact hp p2.sim (q.later p2 p1.sim) q2 e' h
theorem pE_bin {op : Operator} {rr : R2} {p : Ro → D → D → Option (D × Kd)} (ho : OpR X (binaryOp op) rr) (hp : Prim2 F rr p) (h1 : PE X e1 (tE F Wx f1)) (h2 : PE X e2 (tE F Wx f2)) :
    PE X (.BinOp e1 op e2 pos) (tE F Wx (c2 p f1 f2)) := PE.imp (pe_op ho h1 h2) fun _ _ _ h => tE_c2 hp h
theorem pE_un {op : UnaryOp} {rr : V → Hp → VK → Prop} {p : D → Option (D × Kd)} (ho : UnR X (unaryOp op) rr) (hp : Prim1 F rr p) (h1 : PE X e1 (tE F Wx f1)) :
    PE X (.UnaryOp op e1 pos) (tE F Wx (c1 p f1)) := PE.imp (pe_un ho h1) fun _ _ _ h => tE_c1 hp h
theorem pE_cmp {op : CmpOp} {rr : R2} {p : Ro → D → D → Option (D × Kd)} (ho : OpR X (compareOp op) rr) (hp : Prim2 F rr p) (hm : behindInMarks op e2 = false) (h1 : PE X e1 (tE F Wx f1)) (h2 : PE X e2 (tE F Wx f2)) :
    PE X (.Compare e1 [op] [e2] pos) (tE F Wx (c2 p f1 f2)) := PE.imp (pe_cmpR ho h1 h2 hm) fun _ _ _ h => tE_c2 hp h
theorem pT_cmp {op : CmpOp} {rr : R2} {p : Ro → D → D → Option (D × Kd)} (ho : OpR X (compareOp op) rr) (hp : Prim2 F rr p) (hm : behindInMarks op e2 = false) (h1 : PE X e1 (tE F Wx f1)) (h2 : PE X e2 (tE F Wx f2)) :
    PT X (.Compare e1 [op] [e2] pos) (tT F Wx (c2 p f1 f2)) := PT.imp (pt_cmpR ho h1 h2 hm) fun _ _ _ h => tE_c2 hp (tE_of_tT h)
theorem pT_val (h : PE X e (tE F Wx f)) (he : ∀ whole, isTrue e X.env whole = (do let v ← whole; standAt e.pos; holding [v] (truthy v))) : PT X e (tT F Wx f) :=
  PT.imp (pt_val h he) fun _ _ _ h => tE_of_tT h

/-! ### tests joined -/
theorem pE_if {c : Expr} {fc : Sm} (hc : PT X c (tT F Wx fc)) (h1 : PE X e1 (tE F Wx f1)) (h2 : PE X e2 (tE F Wx f2)) : PE X (.IfExp c e1 e2 pos) (tE F Wx (cIf fc f1 f2)) := by
  refine PE.imp (pe_ifExp hc h1 h2) fun σ H Q ⟨r, Z, ρ, W, s, h⟩ => ?_
  have h' : EvAt F Wx r Z σ H ρ Q (cBind fc (fun d _ => match d with | .bl b => if b then f1 else f2 | _ => fun _ _ => none) ρ W) := by
    have e : (fun (d : D) (_ : Kd) => match d with | .bl true => f1 | .bl false => f2 | _ => fun _ _ => none) = (fun (d : D) (_ : Kd) => match d with | .bl b => if b then f1 else f2 | _ => fun _ _ => none) := by
      funext d k
      cases d <;> first | rfl | (rename_i b; cases b <;> rfl)
    unfold cIf at h
    rw [e] at h; exact h
  refine tT_mono (tE_bindB (k := fun b => if b then f1 else f2) s h') fun b H1 ⟨Z1, W1, p, h⟩ => ?_
  cases b with
  | true => exact ⟨r, Z1, ρ, W1, p.sim, h⟩
  | false => exact ⟨r, Z1, ρ, W1, p.sim, h⟩
theorem pT_not (h : PT X e (tT F Wx f)) : PT X (.UnaryOp .Not e pos) (tT F Wx (cNot f)) := by
  refine PT.imp (pt_not h) fun σ H Q ⟨r, Z, ρ, W, s, h⟩ => ?_
  refine tT_mono (tT_bindB (k := fun b => cVal (some (.bl !b, .sh))) s h) fun b H1 ⟨Z1, W1, p, h⟩ => ?_
  exact h H1 Z1 (EPost.refl p.sim)
theorem pE_not (h : PE X e (tE F Wx f)) : PE X (.UnaryOp .Not e pos) (tE F Wx (cNot f)) := by
  refine PE.imp (pe_not h) fun σ H Q ⟨r, Z, ρ, W, s, h⟩ => ?_
  refine tE_of_tT (Q := fun c H1 => Q (.bl (!c)) H1) (tT_mono (tE_bindB (k := fun b => cVal (some (.bl !b, .sh))) s h) fun b H1 ⟨Z1, W1, p, h⟩ => ?_)
  exact h _ H1 Z1 (EPost.refl p.sim) (by simp [RepK, Rep]) fun z => nomatch z
theorem cAnd_eq (a b : Sm) : cAnd a b = cBind a (fun d _ => match d with | .bl c => if c then b else cVal (some (.bl false, .sh)) | _ => fun _ _ => none) := by
  unfold cAnd
  congr 1
  funext d k
  cases d <;> first | rfl | (rename_i c; cases c <;> rfl)
theorem cOr_eq (a b : Sm) : cOr a b = cBind a (fun d _ => match d with | .bl c => if c then cVal (some (.bl true, .sh)) else b | _ => fun _ _ => none) := by
  unfold cOr
  congr 1
  funext d k
  cases d <;> first | rfl | (rename_i c; cases c <;> rfl)
theorem pE_and {rest : List Expr} (h1 : PE X e1 (tE F Wx f1)) (h2 : PE X (.BoolOp .And (e2 :: rest) pos) (tE F Wx f2)) : PE X (.BoolOp .And (e1 :: e2 :: rest) pos) (tE F Wx (cAnd f1 f2)) := by
  refine PE.imp (pe_and h1 h2) fun σ H Q ⟨r, Z, ρ, W, s, h⟩ => ?_
  rw [cAnd_eq] at h
  refine tE_of_tT (Q := fun c H1 => if c = true then tE F Wx f2 σ H1 Q else Q (.bl false) H1) (tT_mono (tE_bindB s h) fun b H1 ⟨Z1, W1, p, h⟩ => ?_)
  cases b with
  | true => exact ⟨r, Z1, ρ, W1, p.sim, h⟩
  | false => exact h _ H1 Z1 (EPost.refl p.sim) (by simp [RepK, Rep]) fun z => nomatch z
theorem pE_or {rest : List Expr} (h1 : PE X e1 (tE F Wx f1)) (h2 : PE X (.BoolOp .Or (e2 :: rest) pos) (tE F Wx f2)) : PE X (.BoolOp .Or (e1 :: e2 :: rest) pos) (tE F Wx (cOr f1 f2)) := by
  refine PE.imp (pe_or h1 h2) fun σ H Q ⟨r, Z, ρ, W, s, h⟩ => ?_
  rw [cOr_eq] at h
  refine tE_of_tT (Q := fun c H1 => if c = true then Q (.bl true) H1 else tE F Wx f2 σ H1 Q) (tT_mono (tE_bindB s h) fun b H1 ⟨Z1, W1, p, h⟩ => ?_)
  cases b with
  | true => exact h _ H1 Z1 (EPost.refl p.sim) (by simp [RepK, Rep]) fun z => nomatch z
  | false => exact ⟨r, Z1, ρ, W1, p.sim, h⟩
theorem pW_and {rest : List Expr} (h1 : PT X e1 (tT F Wx f1)) (h2 : PW X (.BoolOp .And (e2 :: rest) pos) (tT F Wx f2)) : PW X (.BoolOp .And (e1 :: e2 :: rest) pos) (tT F Wx (cAnd f1 f2)) := by
  refine PW.imp (pw_and h1 h2) fun σ H Q ⟨r, Z, ρ, W, s, h⟩ => ?_
  rw [cAnd_eq] at h
  refine tT_mono (tT_bindB s h) fun b H1 ⟨Z1, W1, p, h⟩ => ?_
  cases b with
  | true => exact ⟨r, Z1, ρ, W1, p.sim, h⟩
  | false => exact h H1 Z1 (EPost.refl p.sim)
theorem pW_or {rest : List Expr} (h1 : PT X e1 (tT F Wx f1)) (h2 : PW X (.BoolOp .Or (e2 :: rest) pos) (tT F Wx f2)) : PW X (.BoolOp .Or (e1 :: e2 :: rest) pos) (tT F Wx (cOr f1 f2)) := by
  refine PW.imp (pw_or h1 h2) fun σ H Q ⟨r, Z, ρ, W, s, h⟩ => ?_
  rw [cOr_eq] at h
  refine tT_mono (tT_bindB s h) fun b H1 ⟨Z1, W1, p, h⟩ => ?_
  cases b with
  | true => exact h H1 Z1 (EPost.refl p.sim)
  | false => exact ⟨r, Z1, ρ, W1, p.sim, h⟩

/-! ### arguments -/
inductive LR where
  | vals (l : List (D × Kd)) (W : Ro)
  | exc (c : Str) (W : Ro)
abbrev SmL := Env' → Ro → Option LR
def cNil : SmL := fun _ W => some (.vals [] W)
def cCons (f : Sm) (g : SmL) : SmL := fun ρ W =>
  match f ρ W with
  | none => none
  | some (.exc c W') => some (.exc c W')
  | some (.val d k W') =>
    match g ρ W' with
    | none => none
    | some (.exc c W'') => some (.exc c W'')
    | some (.vals l W'') => some (.vals ((d, k) :: l) W'')
def cBindL (f : SmL) (g : List (D × Kd) → Sm) : Sm := fun ρ W =>
  match f ρ W with
  | none => none
  | some (.exc c W') => some (.exc c W')
  | some (.vals l W') => g l ρ W'
def RepKs (F : Fx) (r : Option Addr) (Z : Addr → Prop) (σ : St) (H : Hp) (ρ : Env') : List (D × Kd) → List V → Prop
  | [], vs => vs = []
  | p :: ps, vs => ∃ v t, vs = v :: t ∧ RepK F r Z σ H ρ p.2 p.1 v ∧ RepKs F r Z σ H ρ ps t
/-- new objects among them: new since Hs, and apart -/
def Apart (a : Addr) : List (D × Kd) → List V → Prop
  | [], _ => True
  | p :: l, vs => ∃ v t, vs = v :: t ∧ (p.2 = .fr → v ≠ .ref a) ∧ Apart a l t
def FrOk (Hs : Hp) : List (D × Kd) → List V → Prop
  | [], _ => True
  | p :: l, vs => ∃ v t, vs = v :: t ∧ (p.2 = .fr → ∀ a, v = .ref a → Hs a = none ∧ Apart a l t) ∧ FrOk Hs l t
theorem Apart.of {Hs : Hp} {a : Addr} {o : HO} (h : Hs a = some o) : ∀ {l : List (D × Kd)} {vs : List V}, FrOk Hs l vs → Apart a l vs
  | [], _, _ => trivial
  | p :: l, _, ⟨v, t, e, f, g⟩ => ⟨v, t, e, (fun k z => by rw [(f k a z).1] at h; cases h), Apart.of h g⟩
theorem FrOk.back {Hs H1 : Hp} (k : ∀ b, H1 b = none → Hs b = none) : ∀ {l : List (D × Kd)} {vs : List V}, FrOk H1 l vs → FrOk Hs l vs
  | [], _, _ => trivial
  | p :: l, _, ⟨v, t, e, f, g⟩ => ⟨v, t, e, fun kd a z => ⟨k a (f kd a z).1, (f kd a z).2⟩, FrOk.back k g⟩
def EvL (F : Fx) (Wx : WX) (r : Option Addr) (Z : Addr → Prop) (σ : St) (H : Hp) (ρ : Env') (Q : List V → Hp → Prop) : Option LR → Prop
  | none => False
  | some (.vals l W') => ∀ vs H' Z', EPost F r Z Z' σ H H' ρ W' → RepKs F r Z' σ H' ρ l vs → FrOk H l vs → Q vs H'
  | some (.exc c W') => ∀ H' Z' C, EPost F r Z Z' σ H H' ρ W' → F.mg c = some (.ref C) → Wx (.ref C) none σ H'
def tA (F : Fx) (Wx : WX) (f : SmL) : TA := fun σ H Q => ∃ r Z ρ W, Sim F r Z σ H ρ W ∧ EvL F Wx r Z σ H ρ Q (f ρ W)
theorem PA.imp {X : Cx} {es : List Expr} {t t' : TA} (h : PA X es t) (i : ∀ σ H Q, t' σ H Q → t σ H Q) : PA X es t' := ⟨fun pos pins s σ H Q I q => h.run pos pins s σ H Q I (i σ H Q q)⟩
theorem RepKs.later {r : Option Addr} {Z Z' : Addr → Prop} {σ : St} {H H' : Hp} {ρ : Env'} {W W' : Ro} (p : EPost F r Z Z' σ H H' ρ W') (s : Sim F r Z σ H ρ W) : ∀ {l : List (D × Kd)} {vs : List V}, RepKs F r Z σ H ρ l vs → RepKs F r Z' σ H' ρ l vs
  | [], _, h => h
  | q :: l, _, ⟨v, t, e, a, b⟩ => ⟨v, t, e, a.later p s, RepKs.later p s b⟩
theorem tA_mono {σ : St} {H : Hp} {f : SmL} {Q Q' : List V → Hp → Prop} (h : tA F Wx f σ H Q) (q : ∀ v H', Q v H' → Q' v H') : tA F Wx f σ H Q' := by
  obtain ⟨r, Z, ρ, W, s, h⟩ := h
  refine ⟨r, Z, ρ, W, s, ?_⟩
  cases e : f ρ W with
  | none => rw [e] at h; exact h
  | some o =>
    rw [e] at h
    cases o with
    | exc c W' => exact h
    | vals l W' => exact fun v H' Z' a b c => q _ _ (h v H' Z' a b c)
theorem pA_nil : PA X [] (tA F Wx cNil) := PA.imp pa_nil fun σ H Q ⟨r, Z, ρ, W, s, h⟩ => h [] H Z (EPost.refl s) rfl trivial
theorem pA_cons {es : List Expr} {g : SmL} (h1 : PE X e (tE F Wx f)) (h2 : PA X es (tA F Wx g)) (hs : starEach (e :: es) X.env = (false, eval e X.env) :: starEach es X.env) : PA X (e :: es) (tA F Wx (cCons f g)) := by
  refine PA.imp (pa_cons h1 h2 hs) fun σ H Q ⟨r, Z, ρ, W, s, h⟩ => ?_
  refine ⟨r, Z, ρ, W, s, ?_⟩
  unfold cCons at h
  cases e : f ρ W with
  | none => rw [e] at h; exact h
  | some o =>
    rw [e] at h
    cases o with
    | exc c W' => exact h
    | val d k W' =>
      intro v H1 Z1 p1 q1 fr1
      refine ⟨r, Z1, ρ, W', p1.sim, ?_⟩
      dsimp only at h
      cases e2 : g ρ W' with
      | none => rw [e2] at h; exact h
      | some o =>
        rw [e2] at h
        cases o with
        | exc c W' => exact fun H' Z' C a b => h H' Z' C (p1.trans a) b
        | vals l W'' =>
          intro vs H2 Z2 p2 q2 fr2
          refine h (v :: vs) H2 Z2 (p1.trans p2) ⟨v, vs, rfl, q1.later p2 p1.sim, q2⟩ ⟨v, vs, rfl, fun kf a ea => ⟨fr1 kf a ea, ?_⟩, fr2.back fun b n => p1.none n⟩
          dsimp only at kf
          subst kf
          obtain ⟨a', ea', o, _⟩ := q1
          rw [ea'] at ea
          cases ea
          obtain ⟨ob, eo⟩ := o.body.trk
          exact Apart.of eo fr2
theorem tA_bind {r : Option Addr} {Z : Addr → Prop} {σ : St} {H : Hp} {ρ : Env'} {W : Ro} {Q : VK} {f : SmL} {k : List (D × Kd) → Sm} (s : Sim F r Z σ H ρ W) (h : EvAt F Wx r Z σ H ρ Q (cBindL f k ρ W)) :
    tA F Wx f σ H fun vs H1 => ∃ Z1 l W1, EPost F r Z Z1 σ H H1 ρ W1 ∧ RepKs F r Z1 σ H1 ρ l vs ∧ EvAt F Wx r Z1 σ H1 ρ Q (k l ρ W1) := by
  refine ⟨r, Z, ρ, W, s, ?_⟩
  unfold cBindL at h
  cases e : f ρ W with
  | none => rw [e] at h; exact h
  | some o =>
    rw [e] at h
    cases o with
    | exc c W' => exact h
    | vals l W' => exact fun v H' Z' p q _ => ⟨Z', l, W', p, q, EvAt.later s p h⟩
/-- all of them to be kept -/
def shs : List (D × Kd) → Option (List D)
  | [] => some []
  | (d, .sh) :: l => (shs l).map (d :: ·)
  | _ => none
theorem RepKs.shs {r : Option Addr} {Z : Addr → Prop} {σ : St} {H : Hp} {ρ : Env'} : ∀ {l : List (D × Kd)} {vs : List V} {ds : List D}, RepKs F r Z σ H ρ l vs → shs l = some ds → RepL F.K r Z H ds vs
  | [], _, _, h, e => by
    cases h
    cases e
    exact RepL.nil
  | (d, .sh) :: l, _, ds, ⟨v, t, e, a, b⟩, z => by
    subst e
    simp only [Wk.shs, Option.map_eq_some_iff] at z
    obtain ⟨ds', z, rfl⟩ := z
    exact RepL.cons a (RepKs.shs b z)
  | (d, .bo) :: l, _, ds, _, z => by cases z
  | (d, .fr) :: l, _, ds, _, z => by cases z
/-- the longest list that is let -/
def lim : Nat := 1000000
theorem line_le {n : Nat} (h : n ≤ lim) : n ≤ sizeLine := by rw [sizeLine_eq]; unfold lim at h; omega
theorem line_lt {n : Nat} (h : n < lim) : n < sizeLine := by rw [sizeLine_eq]; unfold lim at h; omega
/-- displays -/
def cTup (f : SmL) : Sm := cBindL f fun l => cVal ((shs l).bind fun ds => if ds.length ≤ lim then some (.tup ds, .sh) else none)
def cLst (f : SmL) : Sm := cBindL f fun l => cVal ((shs l).bind fun ds => if ds.length ≤ lim then some (.lst ds, .fr) else none)
theorem pE_tup {es : List Expr} {k : Nat} {f : SmL} (h : PA X es (tA F Wx f)) : PE X (.Tuple es k pos) (tE F Wx (cTup f)) := by
  refine PE.imp (pe_tup h) fun σ H Q ⟨r, Z, ρ, W, s, h⟩ => ?_
  refine tA_mono (tA_bind s h) fun vs H1 ⟨Z1, l, W1, p1, q1, h⟩ => ?_
  obtain ⟨d, k, e, h⟩ := EvAt.val (d := .non) (k := .sh) h
  obtain ⟨ds, e1, e⟩ := Option.bind_eq_some_iff.mp e
  have q := q1.shs e1
  split at e
  · rename_i hl
    cases e
    refine ⟨by rw [← q.length]; exact line_le hl, fun a na => ?_⟩
    have p := laid (o := .tup vs) p1.sim na
    exact h _ _ Z1 p (by simp only [RepK, Rep]; exact ⟨a, vs, rfl, .inl (.inl upd_same), q.later p p1.sim⟩) fun z => nomatch z
  · cases e
theorem pE_lst {es : List Expr} {f : SmL} (h : PA X es (tA F Wx f)) : PE X (.List es pos) (tE F Wx (cLst f)) := by
  refine PE.imp (pe_lst h) fun σ H Q ⟨r, Z, ρ, W, s, h⟩ => ?_
  refine tA_mono (tA_bind s h) fun vs H1 ⟨Z1, l, W1, p1, q1, h⟩ => ?_
  obtain ⟨d, k, e, h⟩ := EvAt.val (d := .non) (k := .sh) h
  obtain ⟨ds, e1, e⟩ := Option.bind_eq_some_iff.mp e
  have q := q1.shs e1
  split at e
  · rename_i hl
    cases e
    refine ⟨by rw [← q.length]; exact line_le hl, fun a na => ?_⟩
    have p := laid (o := .lst vs) p1.sim na
    obtain ⟨o, ho⟩ := laid_own p1.sim na q
    exact h _ _ Z1 p ⟨a, rfl, o, ho⟩ fun _ a' e => by cases e; exact na
  · cases e

/-! ### built-ins by values -/
def PrimL (F : Fx) (rr : List V → Hp → VK → Prop) (p : List D → Option (D × Kd)) : Prop :=
  ∀ {r : Option Addr} {Z : Addr → Prop} {σ : St} {H : Hp} {ρ : Env'} {W : Ro} {l : List (D × Kd)} {vs : List V} {z : D} {kz : Kd} {Q : VK}, Sim F r Z σ H ρ W → RepKs F r Z σ H ρ l vs → p (l.map (·.1)) = some (z, kz) →
    (∀ v H' Z', EPost F r Z Z' σ H H' ρ W → RepK F r Z' σ H' ρ kz z v → (kz = .fr → ∀ a, v = .ref a → H a = none) → Q v H') → rr vs H Q
def cL (p : List D → Option (D × Kd)) (f : SmL) : Sm := cBindL f fun l => cVal (p (l.map (·.1)))
theorem tE_cL {rr : List V → Hp → VK → Prop} {p : List D → Option (D × Kd)} (hp : PrimL F rr p) {σ : St} {H : Hp} {Q : VK} {f : SmL} (h : tE F Wx (cL p f) σ H Q) : tCB rr (tA F Wx f) σ H Q := by
  obtain ⟨r, Z, ρ, W, s, h⟩ := h
  refine tA_mono (tA_bind s h) fun vs H1 ⟨Z1, l, W1, p1, q1, h⟩ => ?_
  obtain ⟨d, k, e, h⟩ := EvAt.val (d := .non) (k := .sh) h
  exact hp p1.sim q1 e h

/-! ### a call of a def: its promise by values -/
abbrev Fn := List D → Ro → Option ER
def RetOk (F : Fx) (r : Option Addr) (Z : Addr → Prop) (H : Hp) : Kd → D → V → Prop
  | .sh, d, v => Rep F.K r Z H d v
  | _, d, v => ∃ a, v = .ref a ∧ Own F r Z H d a
/-- called with ds, the row W: as f says; what was tracked stands (but for the row) -/
def spV (K : PySem.W.Frag) (mg : Str → Option Value) (n : Nat) (f : Fn) : Sp := fun vs H Q E => vs.length = n ∧ ∃ (Z : Addr → Prop) (r : Option Addr) (ds : List D) (W : Ro),
  Core ⟨K, mg, H, Z⟩ r Z H W ∧ RepL K r Z H ds vs ∧
  match f ds W with
  | none => False
  | some (.val d k W') => ∀ v H' Z', Core ⟨K, mg, H, Z⟩ r Z' H' W' → (∀ b, Z b → Z' b) → RetOk ⟨K, mg, H, Z⟩ r Z' H' k d v → Q v H'
  | some (.exc c W') => ∀ H' Z' C, Core ⟨K, mg, H, Z⟩ r Z' H' W' → (∀ b, Z b → Z' b) → mg c = some (.ref C) → E (.ref C) none H'
def cCall (f : Fn) (g : SmL) : Sm := cBindL g fun l _ W =>
  match shs l with
  | none => none
  | some ds =>
    match f ds W with
    | some (.val d .bo W') => none
    | o => o
/-- behind a call: the caller's state -/
theorem after_call {r : Option Addr} {Z Z' : Addr → Prop} {σ : St} {H H' : Hp} {ρ : Env'} {W W' : Ro} (s : Sim F r Z σ H ρ W) (c : Core ⟨F.K, F.mg, H, Z⟩ r Z' H' W') (hz : ∀ b, Z b → Z' b) : EPost F r Z Z' σ H H' ρ W' := by
  have kp : ∀ b o, H b = some o → r ≠ some b → H' b = some o := c.ext
  have gr : ∀ b, Z' b → Z b ∨ H b = none := c.zfr
  have st : Stay Z H H' := fun b o h i => by
    refine kp b o h fun e => ?_
    rcases i with z | z
    · exact (s.core.zin b z).2 e
    · obtain ⟨vs, q⟩ := s.rtrk e
      rw [q] at h; cases h; exact z
  refine ⟨⟨⟨fun b o h n => kp b o (s.core.ext b o h n) n, c.zin, fun b z => ?_, c.row⟩, s.len, fun i d e => ?_, fun i d e => ?_, s.dis⟩, hz, gr, kp⟩
  · rcases gr b z with z | n
    · exact s.core.zfr b z
    · cases q : F.H0 b with
      | none => exact .inr rfl
      | some o =>
        by_cases e : r = some b
        · obtain ⟨vs, z⟩ := s.rtrk e
          rw [n] at z; cases z
        · rw [s.core.ext b o q e] at n; cases n
  · obtain ⟨v, e1, q⟩ := s.sh i d e
    exact ⟨v, e1, q.stay st hz fun _ e => e⟩
  · obtain ⟨b, e1, q⟩ := s.ow i d e
    obtain ⟨o, eo⟩ := q.body.trk
    refine ⟨b, e1, ⟨fun z => ?_, q.nr, q.n0, q.body.stay st hz fun o e => kp b o e q.nr⟩⟩
    rcases gr b z with z | z
    · exact q.nz z
    · rw [eo] at z; cases z
theorem tE_call {n : Nat} {fn : Fn} {σ : St} {H : Hp} {Q : VK} {g : SmL} (hn : ∀ ρ W l W', g ρ W = some (.vals l W') → l.length = n) (h : tE F Wx (cCall fn g) σ H Q) :
    tCallS (spV F.K F.mg n fn) (fun σ cls d H => Wx cls d σ H) (tA F Wx g) σ H Q := by
  obtain ⟨r, Z, ρ, W, s, h⟩ := h
  refine ⟨r, Z, ρ, W, s, ?_⟩
  unfold cCall cBindL at h
  cases e : g ρ W with
  | none => rw [e] at h; exact h
  | some o =>
    rw [e] at h
    cases o with
    | exc c W' => exact h
    | vals l W1 =>
      intro vs H1 Z1 p1 q1 _
      dsimp only at h
      cases e2 : shs l with
      | none => rw [e2] at h; exact h.elim
      | some ds =>
        rw [e2] at h
        have rl := q1.shs e2
        have s1 := p1.sim
        refine ⟨?_, Z1, r, ds, W1, ⟨fun b o h _ => h, s1.core.zin, fun b z => .inl z, s1.core.row⟩, rl, ?_⟩
        · have h2 : ∀ {l : List (D × Kd)} {vs : List V}, RepKs F r Z1 σ H1 ρ l vs → l.length = vs.length := by
            intro l
            induction l with
            | nil => intro vs h; cases h; rfl
            | cons p l ih => intro vs ⟨v, t, e, _, b⟩; subst e; simp [ih b]
          rw [← h2 q1]
          exact hn _ _ _ _ e
        · dsimp only at h
          cases e3 : fn ds W1 with
          | none => rw [e3] at h; exact h
          | some o =>
            rw [e3] at h
            cases o with
            | exc c W' => exact fun H' Z' C c hz hm => h H' Z' C (p1.trans (after_call s1 c hz)) hm
            | val d k W' =>
              cases k with
              | bo => exact h.elim
              | sh => exact fun v H' Z' c hz q => h v H' Z' (p1.trans (after_call s1 c hz)) q fun z => nomatch z
              | fr =>
                intro v H' Z' c hz q
                obtain ⟨a, ea, o⟩ := q
                have n1 : H1 a = none := o.n0
                refine h v H' Z' (p1.trans (after_call s1 c hz)) ⟨a, ea, ⟨o.nz, o.nr, ?_, o.body⟩, fun i d' z z2 => ?_⟩ fun _ a' ea' => ?_
                · cases q : F.H0 a with
                  | none => rfl
                  | some o2 => rw [s1.core.ext a o2 q o.nr] at n1; cases n1
                · obtain ⟨b, e1, q⟩ := s1.ow i d' z
                  rw [e1] at z2; cases z2
                  obtain ⟨o, eo⟩ := q.body.trk
                  rw [eo] at n1; cases n1
                · rw [ea] at ea'; cases ea'
                  exact p1.none n1
end
end Wk

set_option Elab.async false
set_option linter.all false
set_option maxRecDepth 100000
set_option maxHeartbeats 1000000
/-! # Statements -/
namespace Wk
open PySem PySem.Spec L2

inductive SR where
  | nx (ρ : Env') (W : Ro)
  | bk (ρ : Env') (W : Ro)
  | ct (ρ : Env') (W : Ro)
  | rt (d : D) (k : Kd) (W : Ro)
  | exc (c : Str) (ρ : Env') (W : Ro)
abbrev SmS := Env' → Ro → Option SR

/-- behind a statement -/
structure SPost (r r' : Option Addr) (Z Z' : Addr → Prop) (H H' : Hp) : Prop where
  rw : ∀ a, r = some a → r' = some a
  sub : ∀ b, Z b → Z' b
  stay : Stay Z H H'
def EvS (F : Fx) (Wx : WX) (r : Option Addr) (Z : Addr → Prop) (H : Hp) (D : Ends) : Option SR → Prop
  | none => False
  | some (.nx ρ' W') => ∀ r' σ' H' Z', Sim F r' Z' σ' H' ρ' W' → SPost r r' Z Z' H H' → D.nx σ' H'
  | some (.bk ρ' W') => ∀ r' σ' H' Z', Sim F r' Z' σ' H' ρ' W' → SPost r r' Z Z' H H' → D.bk σ' H'
  | some (.ct ρ' W') => ∀ r' σ' H' Z', Sim F r' Z' σ' H' ρ' W' → SPost r r' Z Z' H H' → D.ct σ' H'
  | some (.rt d k W') => ∀ r' v H' Z', Core F r' Z' H' W' → SPost r r' Z Z' H H' → RetOk F r' Z' H' k d v → D.rt v H'
  | some (.exc c ρ' W') => ∀ r' σ' H' Z' C, Sim F r' Z' σ' H' ρ' W' → SPost r r' Z Z' H H' → F.mg c = some (.ref C) → Wx (.ref C) none σ' H'
def tS (F : Fx) (Wx : WX) (f : SmS) : TS := fun D σ H => ∃ r Z ρ W, Sim F r Z σ H ρ W ∧ EvS F Wx r Z H D (f ρ W)

section
variable {F : Fx} {Wx : WX} {r r' r'' : Option Addr} {Z Z' Z'' : Addr → Prop} {σ σ' : St} {H H' H'' : Hp} {ρ ρ' : Env'} {W W' : Ro} {Dn : Ends}
theorem SPost.refl : SPost r r Z Z H H := ⟨fun _ e => e, fun _ z => z, Stay.refl⟩
theorem SPost.trans (p : SPost r r' Z Z' H H') (q : SPost r' r'' Z' Z'' H' H'') : SPost r r'' Z Z'' H H'' := ⟨fun a e => q.rw a (p.rw a e), fun b z => q.sub b (p.sub b z), p.stay.trans q.stay p.sub⟩
theorem EPost.sp (s : Sim F r Z σ H ρ W) (p : EPost F r Z Z' σ H H' ρ W') : SPost r r Z Z' H H' := ⟨fun _ e => e, p.sub, p.stay s⟩
theorem EvS.later (p : SPost r r' Z Z' H H') (h : EvS F Wx r Z H Dn o) : EvS F Wx r' Z' H' Dn o := by
  cases o with
  | none => exact h
  | some e => cases e with
    | nx ρ W => exact fun r σ H Z s q => h r σ H Z s (p.trans q)
    | bk ρ W => exact fun r σ H Z s q => h r σ H Z s (p.trans q)
    | ct ρ W => exact fun r σ H Z s q => h r σ H Z s (p.trans q)
    | rt d k W => exact fun r v H Z s q => h r v H Z s (p.trans q)
    | exc c ρ W => exact fun r σ H Z C s q => h r σ H Z C s (p.trans q)
def sBind (f : Sm) (g : D → Kd → SmS) : SmS := fun ρ W =>
  match f ρ W with
  | none => none
  | some (.exc c W') => some (.exc c ρ W')
  | some (.val d k W') => g d k ρ W'
theorem tS_bind {f : Sm} {k : D → Kd → SmS} (s : Sim F r Z σ H ρ W) (h : EvS F Wx r Z H Dn (sBind f k ρ W)) :
    tE F Wx f σ H fun v H1 => ∃ Z1 d kd W1, EPost F r Z Z1 σ H H1 ρ W1 ∧ RepK F r Z1 σ H1 ρ kd d v ∧ (kd = .fr → ∀ a, v = .ref a → H a = none) ∧ EvS F Wx r Z1 H1 Dn (k d kd ρ W1) := by
  refine ⟨r, Z, ρ, W, s, ?_⟩
  unfold sBind at h
  cases e : f ρ W with
  | none => rw [e] at h; exact h
  | some o =>
    rw [e] at h
    cases o with
    | exc c W' => exact fun H' Z' C p m => h r σ H' Z' C p.sim (p.sp s) m
    | val d kd W' => exact fun v H' Z' p q fr => ⟨Z', d, kd, W', p, q, fr, EvS.later (p.sp s) h⟩
theorem tS_bindT {f : Sm} {k : Bool → SmS} (s : Sim F r Z σ H ρ W) (h : EvS F Wx r Z H Dn (sBind f (fun d _ => match d with | .bl b => k b | _ => fun _ _ => none) ρ W)) :
    tT F Wx f σ H fun b H1 => ∃ Z1 W1, EPost F r Z Z1 σ H H1 ρ W1 ∧ EvS F Wx r Z1 H1 Dn (k b ρ W1) := by
  refine ⟨r, Z, ρ, W, s, ?_⟩
  unfold sBind at h
  cases e : f ρ W with
  | none => rw [e] at h; exact h
  | some o =>
    rw [e] at h
    cases o with
    | exc c W' => exact fun H' Z' C p m => h r σ H' Z' C p.sim (p.sp s) m
    | val d kd W' =>
      cases d with
      | bl b => exact fun H' Z' p => ⟨Z', W', p, EvS.later (p.sp s) h⟩
      | _ => exact h
theorem PS.imp {X : Cx} {e : Stmt} {t t' : TS} (h : PS X e t) (i : ∀ D σ H, t' D σ H → t D σ H) : PS X e t' := ⟨fun pins s σ H D I q => h.run pins s σ H D I (i D σ H q)⟩
theorem PSs.imp {X : Cx} {e : List Stmt} {t t' : TS} (h : PSs X e t) (i : ∀ D σ H, t' D σ H → t D σ H) : PSs X e t' := ⟨fun pins s σ H D I q => h.run pins s σ H D I (i D σ H q)⟩

/-! ### slots -/
theorem set_get {α : Type} {l : List α} {i j : Nat} {x y : α} (h : (l.set i x)[j]? = some y) : (j = i ∧ y = x) ∨ (j ≠ i ∧ l[j]? = some y) := by
  by_cases e : j = i
  · subst e
    left
    by_cases hl : j < l.length
    · rw [List.getElem?_set_self hl] at h
      exact ⟨rfl, (Option.some.inj h).symm⟩
    · rw [List.getElem?_eq_none (by simpa using hl)] at h; cases h
  · right
    rw [List.getElem?_set_ne (Ne.symm e)] at h
    exact ⟨e, h⟩
theorem Sim.setSh (s : Sim F r Z σ H ρ W) {i : Nat} {d : D} {v : V} (q : Rep F.K r Z H d v) : Sim F r Z (σ.set i (some v)) H (ρ.set i (.sh d)) W := by
  refine ⟨s.core, by simp [s.len], fun j e h => ?_, fun j e h => ?_, fun j l d e a h1 h2 h3 h4 => ?_⟩
  · have h0 := (List.getElem?_eq_some_iff.mp h).1
    rcases set_get h with ⟨z, g⟩ | ⟨n, g⟩
    · cases g
      subst z
      exact ⟨v, List.getElem?_set_self (by rw [s.len]; simpa using h0), q⟩
    · obtain ⟨v, e1, q⟩ := s.sh j e g
      exact ⟨v, by rw [List.getElem?_set_ne (Ne.symm n)]; exact e1, q⟩
  · rcases set_get h with ⟨z, g⟩ | ⟨n, g⟩
    · cases g
    · obtain ⟨v, e1, q⟩ := s.ow j e g
      exact ⟨v, by rw [List.getElem?_set_ne (Ne.symm n)]; exact e1, q⟩
  · rcases set_get h1 with ⟨_, g1⟩ | ⟨n1, g1⟩
    · cases g1
    · rcases set_get h2 with ⟨_, g2⟩ | ⟨n2, g2⟩
      · cases g2
      · rw [List.getElem?_set_ne (Ne.symm n1)] at h3
        rw [List.getElem?_set_ne (Ne.symm n2)] at h4
        exact s.dis j l d e a g1 g2 h3 h4
theorem Sim.setOw (s : Sim F r Z σ H ρ W) {i : Nat} {d : D} {a : Addr} (o : Own F r Z H d a) (ho : ∀ (i : Nat) (d' : D), ρ[i]? = some (.ow d') → σ[i]? ≠ some (some (.ref a))) :
    Sim F r Z (σ.set i (some (.ref a))) H (ρ.set i (.ow d)) W := by
  refine ⟨s.core, by simp [s.len], fun j e h => ?_, fun j e h => ?_, fun j l d1 e b h1 h2 h3 h4 => ?_⟩
  · rcases set_get h with ⟨_, g⟩ | ⟨n, g⟩
    · cases g
    · obtain ⟨v, e1, q⟩ := s.sh j e g
      exact ⟨v, by rw [List.getElem?_set_ne (Ne.symm n)]; exact e1, q⟩
  · have h0 := (List.getElem?_eq_some_iff.mp h).1
    rcases set_get h with ⟨z, g⟩ | ⟨n, g⟩
    · cases g
      subst z
      exact ⟨a, List.getElem?_set_self (by rw [s.len]; simpa using h0), o⟩
    · obtain ⟨v, e1, q⟩ := s.ow j e g
      exact ⟨v, by rw [List.getElem?_set_ne (Ne.symm n)]; exact e1, q⟩
  · rcases set_get h1 with ⟨z1, g1⟩ | ⟨n1, g1⟩
    · rcases set_get h2 with ⟨z2, g2⟩ | ⟨n2, g2⟩
      · rw [z1, z2]
      · rw [List.getElem?_set_ne (Ne.symm n2)] at h4
        rcases set_get h3 with ⟨_, g3⟩ | ⟨n, _⟩
        · cases g3
          exact absurd h4 (ho l e g2)
        · exact absurd z1 n
    · rw [List.getElem?_set_ne (Ne.symm n1)] at h3
      rcases set_get h2 with ⟨z2, g2⟩ | ⟨n2, g2⟩
      · rcases set_get h4 with ⟨_, g4⟩ | ⟨n, _⟩
        · cases g4
          exact absurd h3 (ho j d1 g1)
        · exact absurd z2 n
      · rw [List.getElem?_set_ne (Ne.symm n2)] at h4
        exact s.dis j l d1 e b g1 g2 h3 h4
/-- a slot forgotten -/
theorem Sim.setNo (s : Sim F r Z σ H ρ W) {i : Nat} {x : Option V} : Sim F r Z (σ.set i x) H (ρ.set i .no) W := by
  refine ⟨s.core, by simp [s.len], fun j e h => ?_, fun j e h => ?_, fun j l d e a h1 h2 h3 h4 => ?_⟩
  · rcases set_get h with ⟨_, g⟩ | ⟨n, g⟩
    · cases g
    · obtain ⟨v, e1, q⟩ := s.sh j e g
      exact ⟨v, by rw [List.getElem?_set_ne (Ne.symm n)]; exact e1, q⟩
  · rcases set_get h with ⟨_, g⟩ | ⟨n, g⟩
    · cases g
    · obtain ⟨v, e1, q⟩ := s.ow j e g
      exact ⟨v, by rw [List.getElem?_set_ne (Ne.symm n)]; exact e1, q⟩
  · rcases set_get h1 with ⟨_, g1⟩ | ⟨n1, g1⟩
    · cases g1
    · rcases set_get h2 with ⟨_, g2⟩ | ⟨n2, g2⟩
      · cases g2
      · rw [List.getElem?_set_ne (Ne.symm n1)] at h3
        rw [List.getElem?_set_ne (Ne.symm n2)] at h4
        exact s.dis j l d e a g1 g2 h3 h4
theorem set_self {α : Type} : ∀ {l : List α} {i : Nat} {x : α}, l[i]? = some x → l.set i x = l
  | [], _, _, h => by simp at h
  | a :: l, 0, x, h => by simp at h; subst h; rfl
  | a :: l, i + 1, x, h => by simp at h; simp [set_self h]
/-- a slot's own object is shared from now on -/
theorem Sim.share (s : Sim F r Z σ H ρ W) {i : Nat} {d : D} (h : ρ[i]? = some (.ow d)) : ∃ Z', Sim F r Z' σ H (ρ.set i (.sh d)) W ∧ SPost r r Z Z' H H := by
  obtain ⟨a, e, o⟩ := s.ow i d h
  have s1 : Sim F r Z σ H (ρ.set i .no) W := by
    have q := s.setNo (i := i) (x := some (.ref a))
    rwa [set_self e] at q
  obtain ⟨s2, q2⟩ := freeze s1 o fun j d' z z2 => by
    rcases set_get z with ⟨_, g⟩ | ⟨n, g⟩
    · cases g
    · exact n (s.dis j i d' d a g h z2 e)
  have s3 := s2.setSh (i := i) q2
  rw [set_self e, List.set_set] at s3
  exact ⟨_, s3, ⟨fun _ e => e, fun _ z => .inl z, Stay.refl⟩⟩
def shareAll : List Nat → Env' → Env'
  | [], ρ => ρ
  | i :: is, ρ => shareAll is (match ρ[i]? with | some (.ow d) => ρ.set i (.sh d) | _ => ρ)
theorem Sim.shareAll : ∀ {is : List Nat} {Z : Addr → Prop} {ρ : Env'}, Sim F r Z σ H ρ W → ∃ Z', Sim F r Z' σ H (Wk.shareAll is ρ) W ∧ SPost r r Z Z' H H
  | [], Z, ρ, s => ⟨Z, s, SPost.refl⟩
  | i :: is, Z, ρ, s => by
    unfold Wk.shareAll
    split
    · rename_i d h
      obtain ⟨Z1, s1, p1⟩ := s.share h
      obtain ⟨Z2, s2, p2⟩ := Sim.shareAll (is := is) s1
      exact ⟨Z2, s2, p1.trans p2⟩
    · exact Sim.shareAll (is := is) s
/-- shared ahead of a statement -/
def cShr (is : List Nat) (f : SmS) : SmS := fun ρ W => f (shareAll is ρ) W
theorem pS_shr {X : Cx} {st : Stmt} {is : List Nat} {f : SmS} (h : PS X st (tS F Wx f)) : PS X st (tS F Wx (cShr is f)) := by
  refine PS.imp h fun D σ H ⟨r, Z, ρ, W, s, h⟩ => ?_
  obtain ⟨Z', s', p⟩ := s.shareAll (is := is)
  exact ⟨r, Z', _, W, s', h.later p⟩

/-! ### an owned list is written -/
theorem Sim.write (s : Sim F r Z σ H ρ W) {a : Addr} {d e : D} {o : HO} (ow : Own F r Z H d a) (hb : ∀ H', Stay Z H H' → H' a = some o → Body F.K r Z H' e a) :
    (∀ i, (∀ (j : Nat) (d' : D), j ≠ i → ρ[j]? = some (.ow d') → σ[j]? ≠ some (some (.ref a))) → Sim F r Z σ (upd H a o) (ρ.set i (if σ[i]? = some (some (.ref a)) then .ow e else .no)) W) ∧ SPost r r Z Z H (upd H a o) := by
  have st : Stay Z H (upd H a o) := fun b u h i => by
    by_cases hb : b = a
    · subst hb
      rcases i with z | z
      · exact absurd z ow.nz
      · exfalso
        have b := ow.body
        cases d with
        | lst l => obtain ⟨vs, q, _⟩ := b; rw [q] at h; cases h; exact z
        | dct ks l => obtain ⟨vs, q, _⟩ := b; rw [q] at h; cases h; exact z
        | _ => exact b.elim
    · rw [upd_ne hb]; exact h
  have id1 : ∀ a, r = some a → r = some a := fun _ e => e
  have zz : ∀ b, Z b → Z b := fun _ z => z
  have na : ∀ b, (r = some b ∨ F.H0 b ≠ none) → b ≠ a := fun b h e => by
    subst e
    rcases h with h | h
    · exact ow.nr h
    · exact h ow.n0
  refine ⟨fun i hi => ⟨⟨fun b u h n => ?_, fun b z => ?_, s.core.zfr, ?_⟩, by simp [s.len], fun j e' h => ?_, fun j e' h => ?_, fun j l d1 e1 b h1 h2 h3 h4 => ?_⟩, ⟨id1, zz, st⟩⟩
  · rw [upd_ne (na b (.inr (by rw [h]; simp)))]; exact s.core.ext b u h n
  · obtain ⟨⟨u, q⟩, n⟩ := s.core.zin b z
    exact ⟨⟨u, st b u q (.inl z)⟩, n⟩
  · have q := s.core.row
    cases W with
    | none => exact q
    | some w => obtain ⟨b, vs, e, e2, l⟩ := q; exact ⟨b, vs, e, by rw [upd_ne (na b (.inl e))]; exact e2, l.stay st zz id1⟩
  · rcases set_get h with ⟨_, g⟩ | ⟨n, g⟩
    · split at g <;> cases g
    · obtain ⟨v, e1, q⟩ := s.sh j e' g
      exact ⟨v, e1, q.stay st zz id1⟩
  · rcases set_get h with ⟨z, g⟩ | ⟨n, g⟩
    · split at g
      · rename_i hs
        cases g
        subst z
        exact ⟨a, hs, ow.nz, ow.nr, ow.n0, hb _ st upd_same⟩
      · cases g
    · obtain ⟨b, e1, q⟩ := s.ow j e' g
      have nb : b ≠ a := fun z => by subst z; exact hi j e' n g e1
      exact ⟨b, e1, ⟨q.nz, q.nr, q.n0, q.body.stay st zz fun o e => by rw [upd_ne nb]; exact e⟩⟩
  · rcases set_get h1 with ⟨z1, g1⟩ | ⟨n1, g1⟩
    · rcases set_get h2 with ⟨z2, g2⟩ | ⟨n2, g2⟩
      · rw [z1, z2]
      · split at g1
        · rename_i hs
          subst z1
          rw [hs] at h3; cases h3
          exact absurd h4 (hi l e1 n2 g2)
        · cases g1
    · rcases set_get h2 with ⟨z2, g2⟩ | ⟨n2, g2⟩
      · split at g2
        · rename_i hs
          subst z2
          rw [hs] at h4; cases h4
          exact absurd h3 (hi j d1 n1 g1)
        · cases g2
      · exact s.dis j l d1 e1 b g1 g2 h3 h4
/-- .. a slot's own -/
theorem Sim.writeAt (s : Sim F r Z σ H ρ W) {i : Nat} {d e : D} {o : HO} {a : Addr} (h : ρ[i]? = some (.ow d)) (ha : σ[i]? = some (some (.ref a))) (ow : Own F r Z H d a)
    (hb : ∀ H', Stay Z H H' → H' a = some o → Body F.K r Z H' e a) : Sim F r Z σ (upd H a o) (ρ.set i (.ow e)) W ∧ SPost r r Z Z H (upd H a o) := by
  obtain ⟨h1, h2⟩ := s.write ow hb
  have q := h1 i fun j d' n z z2 => n (s.dis j i d' d a z h z2 ha)
  rw [if_pos ha] at q
  exact ⟨q, h2⟩
end
end Wk

set_option Elab.async false
set_option linter.all false
set_option maxRecDepth 100000
set_option maxHeartbeats 1000000
namespace Wk
open PySem PySem.Spec L2
section
variable {F : Fx} {Wx : WX} {X : Cx} {e e1 e2 : Expr} {f f1 f2 : Sm} {pos : Pos} {st : Stmt} {rest : List Stmt} {g g1 g2 : SmS}
theorem Body.stayR {K : PySem.W.Frag} {r r' : Option Addr} {Z : Addr → Prop} {H : Hp} {d : D} {a : Addr} (h : Body K r Z H d a) (hr : ∀ b, r = some b → r' = some b) : Body K r' Z H d a := by
  cases d with
  | lst l => obtain ⟨vs, e, q⟩ := h; exact ⟨vs, e, q.stay Stay.refl (fun _ z => z) hr⟩
  | dct ks l => obtain ⟨vs, e, n, q⟩ := h; exact ⟨vs, e, n, q.stay Stay.refl (fun _ z => z) hr⟩
  | _ => exact h.elim
/-- only a shared value goes on -/
def onSh (g : D → SmS) : D → Kd → SmS := fun d k => match k with | .sh => g d | _ => fun _ _ => none
/-! ### blocks -/
def cNx : SmS := fun ρ W => some (.nx ρ W)
def cSeq (f g : SmS) : SmS := fun ρ W =>
  match f ρ W with
  | some (.nx ρ' W') => g ρ' W'
  | o => o
theorem pSs_nil : PSs X [] (tS F Wx cNx) := PSs.imp pss_nil fun D σ H ⟨r, Z, ρ, W, s, h⟩ => h r σ H Z s SPost.refl
theorem EvS.seq {r : Option Addr} {Z : Addr → Prop} {σ : St} {H : Hp} {ρ : Env'} {W : Ro} {Dn : Ends} (s : Sim F r Z σ H ρ W) (h : EvS F Wx r Z H Dn (cSeq g1 g2 ρ W)) :
    EvS F Wx r Z H { Dn with nx := tS F Wx g2 Dn } (g1 ρ W) := by
  unfold cSeq at h
  cases e : g1 ρ W with
  | none => rw [e] at h; exact h
  | some o =>
    rw [e] at h
    cases o with
    | nx ρ' W' => exact fun r' σ' H' Z' s' p => ⟨r', Z', ρ', W', s', h.later p⟩
    | bk ρ' W' => exact h
    | ct ρ' W' => exact h
    | rt d k W' => exact h
    | exc c ρ' W' => exact h
theorem pSs_cons (h1 : PS X st (tS F Wx g1)) (h2 : PSs X rest (tS F Wx g2)) : PSs X (st :: rest) (tS F Wx (cSeq g1 g2)) :=
  PSs.imp (pss_cons h1 h2) fun D σ H ⟨r, Z, ρ, W, s, h⟩ => ⟨r, Z, ρ, W, s, EvS.seq s h⟩
theorem pS_pass : PS X (.Pass pos) (tS F Wx cNx) := PS.imp ps_pass fun D σ H ⟨r, Z, ρ, W, s, h⟩ => h r σ H Z s SPost.refl
def cBk : SmS := fun ρ W => some (.bk ρ W)
def cCt : SmS := fun ρ W => some (.ct ρ W)
theorem pS_break : PS X (.Break pos) (tS F Wx cBk) := PS.imp ps_break fun D σ H ⟨r, Z, ρ, W, s, h⟩ => h r σ H Z s SPost.refl
theorem pS_continue : PS X (.Continue pos) (tS F Wx cCt) := PS.imp ps_continue fun D σ H ⟨r, Z, ρ, W, s, h⟩ => h r σ H Z s SPost.refl
def cExpr (f : Sm) : SmS := sBind f fun _ _ ρ W => some (.nx ρ W)
theorem pS_expr (h : PE X e (tE F Wx f)) (hs : swapsWith e none pos.line X.env = pure false) : PS X (.Expr e pos) (tS F Wx (cExpr f)) := by
  refine PS.imp (ps_expr h hs) fun D σ H ⟨r, Z, ρ, W, s, h⟩ => ?_
  refine tE_mono (tS_bind s h) fun v H1 ⟨Z1, d, kd, W1, p, q, _, h⟩ => ?_
  exact h r σ H1 Z1 p.sim SPost.refl
def cIfS (c : Sm) (a b : SmS) : SmS := sBind c fun d _ => match d with | .bl k => if k then a else b | _ => fun _ _ => none
theorem pS_if {c : Expr} {fc : Sm} {as bs : List Stmt} (hc : PT X c (tT F Wx fc)) (h1 : PSs X as (tS F Wx g1)) (h2 : PSs X bs (tS F Wx g2)) : PS X (.If c as bs pos) (tS F Wx (cIfS fc g1 g2)) := by
  refine PS.imp (ps_if hc h1 h2) fun D σ H ⟨r, Z, ρ, W, s, h⟩ => ?_
  refine tT_mono (tS_bindT (k := fun k => if k then g1 else g2) s h) fun b H1 ⟨Z1, W1, p, h⟩ => ?_
  cases b with
  | true => exact ⟨r, Z1, ρ, W1, p.sim, h⟩
  | false => exact ⟨r, Z1, ρ, W1, p.sim, h⟩
/-! ### return -/
def cRet (f : Sm) : SmS := sBind f fun d k _ W => some (.rt d (if k = .sh then .sh else .fr) W)
theorem RetOk.of {r : Option Addr} {Z : Addr → Prop} {σ : St} {H : Hp} {ρ : Env'} {d : D} {v : V} : ∀ {k : Kd}, RepK F r Z σ H ρ k d v → RetOk F r Z H (if k = .sh then .sh else .fr) d v
  | .sh, h => h
  | .bo, ⟨a, e, o⟩ => ⟨a, e, o⟩
  | .fr, ⟨a, e, o, _⟩ => ⟨a, e, o⟩
theorem pS_ret (h : PE X e (tE F Wx f)) : PS X (.Return (some e) pos) (tS F Wx (cRet f)) := by
  refine PS.imp (ps_ret h) fun D σ H ⟨r, Z, ρ, W, s, h⟩ => ?_
  refine tE_mono (tS_bind s h) fun v H1 ⟨Z1, d, kd, W1, p, q, _, h⟩ => ?_
  exact h r v H1 Z1 p.sim.core SPost.refl (RetOk.of q)
def cRetN : SmS := fun _ W => some (.rt .non .sh W)
theorem pS_retN : PS X (.Return none pos) (tS F Wx cRetN) := PS.imp ps_retN fun D σ H ⟨r, Z, ρ, W, s, h⟩ => h r .non H Z s.core SPost.refl (by simp [RetOk, Rep])
/-! ### x = e -/
def put (i : Nat) (d : D) : Kd → Env' → Option Env'
  | .sh, ρ => some (ρ.set i (.sh d))
  | .fr, ρ => some (ρ.set i (.ow d))
  | .bo, _ => none
def cAsg (i : Nat) (f : Sm) : SmS := sBind f fun d k ρ W => (put i d k ρ).map fun ρ' => .nx ρ' W
theorem Sim.put {r : Option Addr} {Z : Addr → Prop} {σ : St} {H : Hp} {ρ ρ' : Env'} {W : Ro} {i : Nat} {d : D} {v : V} (s : Sim F r Z σ H ρ W) : ∀ {k : Kd}, RepK F r Z σ H ρ k d v → put i d k ρ = some ρ' → Sim F r Z (σ.set i (some v)) H ρ' W
  | .sh, q, e => by cases e; exact s.setSh q
  | .fr, ⟨a, ea, o, ho⟩, e => by cases e; subst ea; exact s.setOw o ho
theorem tS_asg {i : Nat} {D : Ends} {σ : St} {H : Hp} (h : tS F Wx (cAsg i f) D σ H) : tAsg (tE F Wx f) (gName i) D σ H := by
  obtain ⟨r, Z, ρ, W, s, h⟩ := h
  refine tE_mono (tS_bind s h) fun v H1 ⟨Z1, d, kd, W1, p, q, _, h⟩ => ?_
  cases e : Wk.put i d kd ρ with
  | none => rw [e] at h; exact h.elim
  | some ρ' =>
    rw [e] at h
    exact h r _ H1 Z1 (p.sim.put q e) SPost.refl
theorem pS_asg {i : Nat} {x : Str} {pos' : Pos} (hN : X.N.Nodup) (hi : X.N[i]? = some x) (hx : Loc X.env.scope x) (h : PE X e (tE F Wx f)) (hs : swapsWith e (some (.Name x pos')) pos.line X.env = pure false) (hf : X.fn x = true ∨ X.env.scope.names.lookup x = some .local) :
    PS X (.Assign [.Name x pos'] e pos) (tS F Wx (cAsg i f)) := PS.imp (ps_set hN hi hx h hs hf) fun _ _ _ h => tS_asg h
/-- the row is made -/
def cMkRow (i : Nat) (f : Sm) : SmS := sBind f fun d k ρ W => match d, k, W with | .lst l, .fr, none => some (.nx (ρ.set i (.sh .row)) (some l)) | _, _, _ => none
theorem tS_mkRow {i : Nat} {D : Ends} {σ : St} {H : Hp} (h : tS F Wx (cMkRow i f) D σ H) : tAsg (tE F Wx f) (gName i) D σ H := by
  obtain ⟨r, Z, ρ, W, s, h⟩ := h
  refine tE_mono (tS_bind s h) fun v H1 ⟨Z1, d, kd, W1, p, q, _, h⟩ => ?_
  cases d with
  | lst l =>
    cases kd with
    | fr =>
      cases W1 with
      | none =>
        obtain ⟨a, rfl, o, ho⟩ := q
        obtain ⟨vs, e1, rl⟩ := o.body
        have rn : r = none := p.sim.core.row
        subst rn
        have hr : ∀ b : Addr, (none : Option Addr) = some b → some a = some b := fun _ z => nomatch z
        have s1 : Sim F (some a) Z1 σ H1 ρ (some l) := by
          refine ⟨⟨fun b u h _ => p.sim.core.ext b u h (by simp), fun b z => ⟨(p.sim.core.zin b z).1, fun e => ?_⟩, p.sim.core.zfr, a, vs, rfl, e1, rl.stay Stay.refl (fun _ z => z) hr⟩, p.sim.len, fun j d h => ?_, fun j d h => ?_, p.sim.dis⟩
          · cases e; exact o.nz z
          · obtain ⟨v, e2, q⟩ := p.sim.sh j d h
            exact ⟨v, e2, q.stay Stay.refl (fun _ z => z) hr⟩
          · obtain ⟨b, e2, q⟩ := p.sim.ow j d h
            exact ⟨b, e2, ⟨q.nz, fun e => (by cases e; exact ho j d h e2), q.n0, Body.stayR q.body hr⟩⟩
        have s2 := s1.setSh (i := i) (d := .row) (v := .ref a) (by simp only [Rep]; exact ⟨a, rfl, rfl⟩)
        exact h (some a) _ H1 Z1 s2 ⟨hr, fun _ z => z, Stay.refl⟩
      | some w => exact h.elim
    | _ => exact h.elim
  | _ => exact h.elim
theorem pS_mkRow {i : Nat} {x : Str} {pos' : Pos} (hN : X.N.Nodup) (hi : X.N[i]? = some x) (hx : Loc X.env.scope x) (h : PE X e (tE F Wx f)) (hs : swapsWith e (some (.Name x pos')) pos.line X.env = pure false) (hf : X.fn x = true ∨ X.env.scope.names.lookup x = some .local) :
    PS X (.Assign [.Name x pos'] e pos) (tS F Wx (cMkRow i f)) := PS.imp (ps_set hN hi hx h hs hf) fun _ _ _ h => tS_mkRow h
/-! ### x[i] = e -/
theorem Sim.writeRow {r : Option Addr} {Z : Addr → Prop} {σ : St} {H : Hp} {ρ : Env'} {W : Ro} {a : Addr} {w : List D} {vs : List V} (s : Sim F r Z σ H ρ W) (hr : r = some a) (hv : ∃ us, H a = some (.lst us)) (q : RepL F.K r Z H w vs) :
    Sim F r Z σ (upd H a (.lst vs)) ρ (some w) ∧ SPost r r Z Z H (upd H a (.lst vs)) := by
  have st : Stay Z H (upd H a (.lst vs)) := fun b u h i => by
    by_cases hb : b = a
    · subst hb
      rcases i with z | z
      · exact absurd hr (s.core.zin b z).2
      · obtain ⟨us, e⟩ := hv
        rw [e] at h; cases h; exact z.elim
    · rw [upd_ne hb]; exact h
  have id1 : ∀ a, r = some a → r = some a := fun _ e => e
  have zz : ∀ b, Z b → Z b := fun _ z => z
  refine ⟨⟨⟨fun b u h n => ?_, fun b z => ?_, s.core.zfr, a, vs, hr, upd_same, q.stay st zz id1⟩, s.len, fun j d h => ?_, fun j d h => ?_, s.dis⟩, id1, zz, st⟩
  · rw [upd_ne (fun e => n (by rw [e]; exact hr))]; exact s.core.ext b u h n
  · obtain ⟨⟨u, e⟩, n⟩ := s.core.zin b z
    exact ⟨⟨u, st b u e (.inl z)⟩, n⟩
  · obtain ⟨v, e2, q⟩ := s.sh j d h
    exact ⟨v, e2, q.stay st zz id1⟩
  · obtain ⟨b, e2, q⟩ := s.ow j d h
    exact ⟨b, e2, ⟨q.nz, q.nr, q.n0, q.body.stay st zz fun o e => by rw [upd_ne (fun z => q.nr (by rw [z]; exact hr))]; exact e⟩⟩
def setI (i : Nat) (ix : D) (d : D) (ρ : Env') (W : Ro) : Option (Env' × Ro) :=
  match ρ[i]?, ix with
  | some (.ow (.lst l)), .int k => (ixN l.length k).map fun j => (ρ.set i (.ow (.lst (l.set j d))), W)
  | some (.sh .row), .int k => W.bind fun l => (ixN l.length k).map fun j => (ρ, some (l.set j d))
  | _, _ => none
def held (ρ : Env') (i : Nat) : Bool :=
  match ρ[i]? with
  | some (.sh _) => true
  | some (.ow _) => true
  | _ => false
theorem Sim.held {r : Option Addr} {Z : Addr → Prop} {σ : St} {H : Hp} {ρ : Env'} {W : Ro} (s : Sim F r Z σ H ρ W) {i : Nat} (h : Wk.held ρ i = true) : ∃ v, σ[i]? = some (some v) := by
  unfold Wk.held at h
  split at h
  · rename_i d e
    obtain ⟨v, e, _⟩ := s.sh i d e
    exact ⟨v, e⟩
  · rename_i d e
    obtain ⟨v, e, _⟩ := s.ow i d e
    exact ⟨_, e⟩
  · cases h
def cSetI (i : Nat) (fi fe : Sm) : SmS := sBind (cFr fe) <| onSh fun d ρ W => if held ρ i then sBind fi (fun ix _ ρ W => (setI i ix d ρ W).map fun p => .nx p.1 p.2) ρ W else none
theorem RepK.int {r : Option Addr} {Z : Addr → Prop} {σ : St} {H : Hp} {ρ : Env'} {i : Int} {v : V} : ∀ {k : Kd}, RepK F r Z σ H ρ k (.int i) v → v = .int i
  | .sh, h => by simpa [RepK, Rep] using h
  | .bo, ⟨a, _, o⟩ => o.body.elim
  | .fr, ⟨a, _, o, _⟩ => o.body.elim
/-- the store's end, by values -/
theorem setI_ok {r : Option Addr} {Z : Addr → Prop} {σ : St} {H : Hp} {ρ ρ' : Env'} {W W' : Ro} {i : Nat} {ix d : D} {k : Kd} {v0 vi vd : V} {Q : Hp → Prop} (s : Sim F r Z σ H ρ W) (h0 : σ[i]? = some (some v0)) (qi : RepK F r Z σ H ρ k ix vi) (qd : Rep F.K r Z H d vd)
    (e : setI i ix d ρ W = some (ρ', W')) (h : ∀ H', Sim F r Z σ H' ρ' W' → SPost r r Z Z H H' → Q H') : rSetL v0 vi vd H Q := by
  unfold setI at e
  split at e
  · rename_i l kk eo
    obtain ⟨j, ej, e⟩ := Option.map_eq_some_iff.mp e
    cases e
    obtain ⟨a, e1, o⟩ := s.ow i _ eo
    rw [h0] at e1; cases e1
    obtain ⟨vs, ev, rl⟩ := o.body
    have hi := qi.int
    refine ⟨a, vs, kk, j, rfl, hi, ev, by rw [← rl.length]; exact ej, ?_⟩
    obtain ⟨s1, p1⟩ := s.writeAt (o := .lst (vs.set j vd)) (e := .lst (l.set j d)) eo h0 o fun H' st e => ⟨_, e, (rl.set j qd).stay st (fun _ z => z) fun _ e => e⟩
    exact h _ s1 p1
  · rename_i kk eo
    obtain ⟨l, el, e⟩ := Option.bind_eq_some_iff.mp e
    obtain ⟨j, ej, e⟩ := Option.map_eq_some_iff.mp e
    cases e
    subst el
    obtain ⟨v, e1, q⟩ := s.sh i _ eo
    rw [h0] at e1; cases e1
    simp only [Rep] at q
    obtain ⟨a, er, rfl⟩ := q
    obtain ⟨b, vs, eb, ev, rl⟩ := s.core.row
    rw [er] at eb; cases eb
    have hi := qi.int
    refine ⟨a, vs, kk, j, rfl, hi, ev, by rw [← rl.length]; exact ej, ?_⟩
    obtain ⟨s1, p1⟩ := s.writeRow (vs := vs.set j vd) er ⟨_, ev⟩ (rl.set j qd)
    exact h _ s1 p1
  · cases e
theorem pS_setI {i : Nat} {x : Str} {xp sp : Pos} {ei ee : Expr} {fi fe : Sm} (hN : X.N[i]? = some x) (hv : Vis X.env.scope x) (hd : (x == ("__debug__" : Str)) = false) (hcd : (x == ("__classdict__" : Str)) = false)
    (hi : PE X ei (tE F Wx fi)) (he : PE X ee (tE F Wx fe)) (ha : ∀ v, assign (.Subscript (.Name x xp) ei sp) X.env v = (do
      let ov ← holding [v] (eval (.Name x xp) X.env)
      let iv ← holding [v, ov] (eval ei X.env)
      standAt sp
      holding [v, ov, iv] (setItem ov iv v)
      release [v, ov, iv] [])) (hs : swapsWithSole [.Subscript (.Name x xp) ei sp] ee pos.line X.env = pure false) (hw : swappedStores [.Subscript (.Name x xp) ei sp] ee X.env = pure none)
    (h1 : (assignEach [.Subscript (.Name x xp) ei sp] X.env).map (·.2) = [assign (.Subscript (.Name x xp) ei sp) X.env]) :
    PS X (.Assign [.Subscript (.Name x xp) ei sp] ee pos) (tS F Wx (cSetI i fi fe)) := by
  refine PS.imp (ps_asg (pE_fr he) (pg_sub (pe_var hN hv hd hcd) hi set_list ha) hs hw h1) fun D σ H ⟨r, Z, ρ, W, s, h⟩ => ?_
  refine tE_mono (tS_bind s h) fun v H1 ⟨Z1, d, kd, W1, p, q, _, h⟩ => ?_
  cases kd with
  | bo => exact h.elim
  | fr => exact h.elim
  | sh =>
    dsimp only [onSh] at h
    cases hk : held ρ i with
    | false => rw [hk] at h; exact h.elim
    | true =>
      rw [hk, if_pos rfl] at h
      obtain ⟨v0, e0⟩ := p.sim.held hk
      refine ⟨v0, e0, ?_⟩
      refine tE_mono (tS_bind p.sim h) fun vi H2 ⟨Z2, ix, ki, W2, p2, q2, _, h⟩ => ?_
      cases e : setI i ix d ρ W2 with
      | none => rw [e] at h; exact h.elim
      | some pr =>
        rw [e] at h
        exact setI_ok p2.sim e0 q2 (Rep.later p2 p.sim q) e fun H' s' sp => h r σ H' Z2 s' sp
end
end Wk

set_option Elab.async false
set_option linter.all false
set_option maxRecDepth 100000
set_option maxHeartbeats 1000000
namespace Wk
open PySem PySem.Spec L2

/-! ### targets -/
inductive Tg where
  | nm (i : Nat)
  | tp (l : List Tg)
mutual
def aTg : Tg → D → Env' → Option Env'
  | .nm i, d, ρ => some (ρ.set i (.sh d))
  | .tp ts, d, ρ => match d with
    | .tup ds => aTgs ts ds ρ
    | _ => none
def aTgs : List Tg → List D → Env' → Option Env'
  | [], ds, ρ => match ds with
    | [] => some ρ
    | _ => none
  | t :: ts, ds, ρ => match ds with
    | [] => none
    | d :: ds => match aTg t d ρ with
      | none => none
      | some ρ' => aTgs ts ds ρ'
end
mutual
def tgN : Tg → List Nat
  | .nm i => [i]
  | .tp ts => tgNs ts
def tgNs : List Tg → List Nat
  | [] => []
  | t :: ts => tgN t ++ tgNs ts
end
/-- only these slots are touched -/
def Touch (is : List Nat) (σ σ' : St) : Prop := σ'.length = σ.length ∧ ∀ j, j ∉ is → σ'[j]? = σ[j]?
theorem Touch.refl {is : List Nat} {σ : St} : Touch is σ σ := ⟨rfl, fun _ _ => rfl⟩
theorem Touch.trans {is js : List Nat} {σ σ' σ'' : St} (a : Touch is σ σ') (b : Touch js σ' σ'') : Touch (is ++ js) σ σ'' :=
  ⟨b.1.trans a.1, fun j h => (b.2 j fun z => h (List.mem_append_right _ z)).trans (a.2 j fun z => h (List.mem_append_left _ z))⟩
theorem wipe_get {σ : St} {j : Nat} : ∀ {vs : List Nat}, (j ∈ vs → j < σ.length → (wipe σ vs)[j]? = some none) ∧ (j ∉ vs → (wipe σ vs)[j]? = σ[j]?)
  | [] => ⟨fun h => absurd h (by simp), fun _ => rfl⟩
  | v :: vs => by
    obtain ⟨h1, h2⟩ := @wipe_get σ j vs
    unfold wipe
    by_cases e : j = v
    · subst e
      refine ⟨fun _ hl => List.getElem?_set_self (by rw [wipe_length]; exact hl), fun h => absurd List.mem_cons_self h⟩
    · rw [List.getElem?_set_ne (Ne.symm e)]
      refine ⟨fun h hl => h1 ?_ hl, fun h => h2 fun z => h (List.mem_cons_of_mem _ z)⟩
      rcases List.mem_cons.mp h with z | z
      · exact absurd z e
      · exact z
theorem wipe_touch {σ σ' : St} {is vs : List Nat} (t : Touch is σ σ') (h : ∀ j ∈ is, j ∈ vs) : wipe σ' vs = wipe σ vs := by
  apply List.ext_getElem?
  intro j
  by_cases hj : j ∈ vs
  · by_cases hl : j < σ.length
    · rw [wipe_get.1 hj hl, wipe_get.1 hj (by rw [t.1]; exact hl)]
    · have t1 := t.1
      rw [List.getElem?_eq_none (by rw [wipe_length]; omega), List.getElem?_eq_none (by rw [wipe_length]; omega)]
  · rw [wipe_get.2 hj, wipe_get.2 hj]
    exact t.2 j fun z => hj (h j z)
section
variable {F : Fx} {Wx : WX} {X : Cx} {e e1 e2 : Expr} {f f1 f2 : Sm} {pos : Pos} {st : Stmt} {rest : List Stmt} {g g1 g2 : SmS}
def tG (F : Fx) (t : Tg) : TG := fun v σ H Q => ∃ r Z ρ W d ρ', Sim F r Z σ H ρ W ∧ Rep F.K r Z H d v ∧ aTg t d ρ = some ρ' ∧ ∀ σ', Sim F r Z σ' H ρ' W → Touch (tgN t) σ σ' → Q σ' H
def tGs (F : Fx) (t : List Tg) : TGs := fun vs σ H Q => ∃ r Z ρ W ds ρ', Sim F r Z σ H ρ W ∧ RepL F.K r Z H ds vs ∧ aTgs t ds ρ = some ρ' ∧ ∀ σ', Sim F r Z σ' H ρ' W → Touch (tgNs t) σ σ' → Q σ' H
theorem PG.imp {X : Cx} {e : Expr} {t t' : TG} (h : PG X e t) (i : ∀ v σ H Q, t' v σ H Q → t v σ H Q) : PG X e t' := ⟨fun pins s σ H v u Q I r q => h.run pins s σ H v u Q I r (i v σ H Q q)⟩
theorem PGs.imp {X : Cx} {e : List Expr} {t t' : TGs} (h : PGs X e t) (i : ∀ v σ H Q, t' v σ H Q → t v σ H Q) : PGs X e t' := ⟨fun pins s σ H v u Q I r q => h.run pins s σ H v u Q I r (i v σ H Q q)⟩
theorem pG_name {i : Nat} {x : Str} (hN : X.N.Nodup) (hi : X.N[i]? = some x) (hx : Loc X.env.scope x) (hf : X.fn x = true ∨ X.env.scope.names.lookup x = some .local) : PG X (.Name x pos) (tG F (.nm i)) := by
  refine PG.imp (pg_name hN hi hx hf) fun v σ H Q ⟨r, Z, ρ, W, d, ρ', s, q, e, h⟩ => ?_
  simp only [aTg, Option.some.injEq] at e
  subst e
  refine h _ (s.setSh q) ⟨by simp, fun j hj => ?_⟩
  simp only [tgN, List.mem_singleton] at hj
  exact List.getElem?_set_ne (Ne.symm hj)
theorem pGs_nil : PGs X [] (tGs F []) := PGs.imp pgs_nil fun v σ H Q ⟨r, Z, ρ, W, ds, ρ', s, q, e, h⟩ => by
  simp only [aTgs] at e
  cases ds with
  | nil =>
    simp only [RepL] at q
    simp only [Option.some.injEq] at e
    subst e
    exact ⟨q, h σ s Touch.refl⟩
  | cons _ _ => cases e
theorem pGs_cons {es : List Expr} {t : Tg} {ts : List Tg} (h1 : PG X e (tG F t)) (h2 : PGs X es (tGs F ts)) (hs : (assignEach (e :: es) X.env).map (·.2) = assign e X.env :: (assignEach es X.env).map (·.2)) : PGs X (e :: es) (tGs F (t :: ts)) := by
  refine PGs.imp (pgs_cons h1 h2 hs) fun v σ H Q ⟨r, Z, ρ, W, ds, ρ', s, q, e, h⟩ => ?_
  simp only [aTgs] at e
  cases ds with
  | nil => cases e
  | cons d ds =>
    simp only [RepL] at q
    obtain ⟨x, xs, rfl, q1, q2⟩ := q
    dsimp only at e
    cases e1 : aTg t d ρ with
    | none => rw [e1] at e; cases e
    | some ρ1 =>
      rw [e1] at e
      refine ⟨x, xs, rfl, r, Z, ρ, W, d, ρ1, s, q1, e1, fun σ1 s1 t1 => ?_⟩
      refine ⟨r, Z, ρ1, W, ds, ρ', s1, q2, e, fun σ2 s2 t2 => h σ2 s2 ?_⟩
      simp only [tgNs]
      exact t1.trans t2
theorem pG_tup {es : List Expr} {k : Nat} {ts : List Tg} {n : Nat} (hc : X.calm = true) (hK : X.K = F.K) (h : PGs X es (tGs F ts)) (hn : (assignEach es X.env).length = n) (hst : (assignEach es X.env).findIdx? (·.1) = none) (hl : ts.length = n) : PG X (.Tuple es k pos) (tG F (.tp ts)) := by
  refine PG.imp (pg_tup hc h hn hst) fun v σ H Q ⟨r, Z, ρ, W, d, ρ', s, q, e, h⟩ => ?_
  simp only [aTg] at e
  cases d with
  | tup ds =>
    dsimp only at e
    simp only [Rep] at q
    obtain ⟨a, vs, rfl, ht, rl⟩ := q
    refine ⟨a, vs, rfl, by rw [hK]; exact ht, ?_, r, Z, ρ, W, ds, ρ', s, rl, e, fun σ' s' t' => h σ' s' (by simpa only [tgN] using t')⟩
    rw [← rl.length, ← hl]
    have len : ∀ {ts : List Tg} {ds : List D} {ρ ρ' : Env'}, aTgs ts ds ρ = some ρ' → ds.length = ts.length := by
      intro ts
      induction ts with
      | nil => intro ds ρ ρ' e; simp only [aTgs] at e; cases ds <;> first | rfl | cases e
      | cons t ts ih =>
        intro ds ρ ρ' e
        simp only [aTgs] at e
        cases ds with
        | nil => cases e
        | cons d ds =>
          dsimp only at e
          cases e1 : aTg t d ρ with
          | none => rw [e1] at e; cases e
          | some ρ1 => rw [e1] at e; simp [ih e]
    exact len e
  | _ => cases e

/-! ### what is walked -/
inductive IR where
  | its (l : List D) (W : Ro)
  | exc (c : Str) (W : Ro)
abbrev SmI := Env' → Ro → Option IR
/-- J yields the items, as long as what stands for good stands -/
def Wlk (F : Fx) (r : Option Addr) (Z : Addr → Prop) (H : Hp) (J : It) (l : List D) : Prop :=
  ∀ H2, Stay Z H H2 → (∀ i, i < l.length → J.go i H2) ∧ (∀ i, l.length ≤ i → J.stop i H2) ∧
    ∀ i x H3, J.yld i H2 x H3 → (H3 = H2 ∨ ∃ T o, H2 T = none ∧ H3 = upd H2 T o) ∧
      ∀ d, l[i]? = some d → ∀ r' Z2, (∀ b, Z b → Z2 b) → (∀ a, r = some a → r' = some a) → Rep F.K r' Z2 H3 d x
def EvI (F : Fx) (Wx : WX) (r : Option Addr) (Z : Addr → Prop) (σ : St) (H : Hp) (ρ : Env') (R : It → Hp → Prop) : Option IR → Prop
  | none => False
  | some (.its l W') => ∀ J H' Z', EPost F r Z Z' σ H H' ρ W' → Wlk F r Z' H' J l → R J H'
  | some (.exc c W') => ∀ H' Z' C, EPost F r Z Z' σ H H' ρ W' → F.mg c = some (.ref C) → Wx (.ref C) none σ H'
def tI (F : Fx) (Wx : WX) (f : SmI) : TI := fun σ H R => ∃ r Z ρ W, Sim F r Z σ H ρ W ∧ EvI F Wx r Z σ H ρ R (f ρ W)
theorem PI.imp {X : Cx} {tg e : Expr} {t t' : TI} (h : PI X tg e t) (i : ∀ σ H R, t' σ H R → t σ H R) : PI X tg e t' := ⟨fun pins s σ H R I q => h.run pins s σ H R I (i σ H R q)⟩
theorem tI_mono {σ : St} {H : Hp} {f : SmI} {R R' : It → Hp → Prop} (h : tI F Wx f σ H R) (q : ∀ J H', R J H' → R' J H') : tI F Wx f σ H R' := by
  obtain ⟨r, Z, ρ, W, s, h⟩ := h
  refine ⟨r, Z, ρ, W, s, ?_⟩
  cases e : f ρ W with
  | none => rw [e] at h; exact h
  | some o =>
    rw [e] at h
    cases o with
    | exc c W' => exact h
    | its l W' => exact fun v H' Z' a b => q _ _ (h v H' Z' a b)
def seqOf : D → Option (List D)
  | .tup l => some l
  | .lst l => some l
  | _ => none
/-- a list, a tuple -/
def cSeqI (f : Sm) : SmI := fun ρ W =>
  match cFr f ρ W with
  | none => none
  | some (.exc c W') => some (.exc c W')
  | some (.val d _ W') => (seqOf d).map fun l => .its l W'
theorem wlk_list {r : Option Addr} {Z : Addr → Prop} {H : Hp} {a : Addr} {vs : List V} {l : List D} {K : PySem.W.Frag} (hK : K = F.K) (z : Z a) (h : H a = some (.lst vs)) (rl : RepL F.K r Z H l vs) : Wlk F r Z H (Itl K a) l := by
  intro H2 st
  have h2 : SqL K H2 a vs := .inl (.inl (st a _ h (.inl z)))
  have hl := rl.length
  refine ⟨fun i hi => ⟨vs, _, h2, List.getElem?_eq_getElem (by omega)⟩, fun i hi => ⟨vs, h2, by omega⟩, fun i x H3 y => ?_⟩
  obtain ⟨rfl, y⟩ := y
  refine ⟨.inl rfl, fun d ed r' Z2 hz hr => ?_⟩
  obtain ⟨v, ev, q⟩ := rl.get ed
  have := y vs h2
  rw [ev] at this; cases this
  exact q.stay st hz hr
theorem wlk_tup {r : Option Addr} {Z : Addr → Prop} {H : Hp} {a : Addr} {vs : List V} {l : List D} {K : PySem.W.Frag} (hK : K = F.K) (h : SqT F.K H a vs) (rl : RepL F.K r Z H l vs) : Wlk F r Z H (Itt K a) l := by
  subst hK
  intro H2 st
  have h2 : SqT F.K H2 a vs := sqT_stay st h
  have hl := rl.length
  refine ⟨fun i hi => ⟨vs, _, h2, List.getElem?_eq_getElem (by omega)⟩, fun i hi => ⟨vs, h2, by omega⟩, fun i x H3 y => ?_⟩
  obtain ⟨rfl, y⟩ := y
  refine ⟨.inl rfl, fun d ed r' Z2 hz hr => ?_⟩
  obtain ⟨v, ev, q⟩ := rl.get ed
  have := y vs h2
  rw [ev] at this; cases this
  exact q.stay st hz hr
theorem pI_seq {tg : Expr} (hK : X.K = F.K) (h : PE X e (tE F Wx f)) : PI X tg e (tI F Wx (cSeqI f)) := by
  refine ⟨fun pins s0 σ H R I ⟨r, Z, ρ, W, s, h1⟩ => ?_⟩
  unfold cSeqI at h1
  cases e1 : cFr f ρ W with
  | none => rw [e1] at h1; exact h1.elim
  | some o =>
    rw [e1] at h1
    cases o with
    | exc c W' =>
      refine (pi_list (tg := tg) (pE_fr h)).run pins s0 σ H R I ⟨r, Z, ρ, W, s, ?_⟩
      rw [e1]; exact h1
    | val d k W' =>
      dsimp only at h1
      have fk : k = .sh := by
        unfold cFr cBind cVal at e1
        cases e2 : f ρ W with
        | none => rw [e2] at e1; cases e1
        | some o =>
          rw [e2] at e1
          cases o with
          | exc c W' => cases e1
          | val d' k' W' =>
            cases k' <;> simp at e1
            · exact e1.2.1.symm
            · exact e1.2.1.symm
      subst fk
      cases d with
      | tup l =>
        refine (pi_tup (tg := tg) (pE_fr h)).run pins s0 σ H R I ⟨r, Z, ρ, W, s, ?_⟩
        rw [e1]
        intro v H' Z' p q _
        simp only [RepK, Rep] at q
        obtain ⟨a, vs, rfl, ht, rl⟩ := q
        exact ⟨a, rfl, ⟨vs, by rw [hK]; exact ht⟩, h1 _ H' Z' p (wlk_tup hK ht rl)⟩
      | lst l =>
        refine (pi_list (tg := tg) (pE_fr h)).run pins s0 σ H R I ⟨r, Z, ρ, W, s, ?_⟩
        rw [e1]
        intro v H' Z' p q _
        simp only [RepK, Rep] at q
        obtain ⟨a, vs, rfl, hz, hl, rl⟩ := q
        exact ⟨a, rfl, ⟨vs, .inl (.inl hl)⟩, h1 _ H' Z' p (wlk_list hK hz hl rl)⟩
      | _ => exact h1.elim
/-- ranges -/
def rangeD (lo : Int) (n : Nat) : List D := (List.range n).map fun (i : Nat) => D.int (lo + (i : Int))
theorem wlk_range {r : Option Addr} {Z : Addr → Prop} {H : Hp} {lo : Int} {n : Nat} : Wlk F r Z H (Itr lo n) (rangeD lo n) := by
  intro H2 st
  have hl : (rangeD lo n).length = n := by simp [rangeD]
  refine ⟨fun i hi => by rw [hl] at hi; exact hi, fun i hi => by rw [hl] at hi; exact hi, fun i x H3 y => ?_⟩
  obtain ⟨rfl, rfl⟩ := y
  refine ⟨.inl rfl, fun d ed r' Z2 hz hr => ?_⟩
  unfold rangeD at ed
  rw [List.getElem?_map] at ed
  cases e : (List.range n)[i]? with
  | none => rw [e] at ed; cases ed
  | some j =>
    rw [e] at ed
    have hj : j = i := by
      obtain ⟨h1, h2⟩ := List.getElem?_eq_some_iff.mp e
      rw [← h2]; simp
    subst hj
    cases ed
    simp only [Rep]
def small62 (i : Int) : Bool := decide (-(2 ^ 62) ≤ i ∧ i < 2 ^ 62)
def cRng1 (f : SmL) : SmI := fun ρ W =>
  match f ρ W with
  | some (.vals [(.int j, _)] W') => if small62 j then some (.its (rangeD 0 j.toNat) W') else none
  | some (.exc c W') => some (.exc c W')
  | _ => none
def cRng2 (f : SmL) : SmI := fun ρ W =>
  match f ρ W with
  | some (.vals [(.int i, _), (.int j, _)] W') => if small62 i && small62 j then some (.its (rangeD i (j - i).toNat) W') else none
  | some (.exc c W') => some (.exc c W')
  | _ => none
theorem pI_range1 {tg a : Expr} {fa : SmL} {p : Pos} (hg : Gl X "range") (hm : X.mg "range" = none) (ha : PA X [a] (tA F Wx fa)) (hs : starEach [a] X.env = [(false, eval a X.env)]) : PI X tg (.Call (.Name "range" p) [a] [] pos) (tI F Wx (cRng1 fa)) := by
  refine PI.imp (pi_range1 hg hm ha hs) fun σ H R ⟨r, Z, ρ, W, s, h⟩ => ?_
  refine ⟨r, Z, ρ, W, s, ?_⟩
  unfold cRng1 at h
  split at h
  · rename_i j k W' e
    rw [e]
    split at h
    · rename_i hj
      intro vs H' Z' p q _
      obtain ⟨v, t, rfl, q1, q2⟩ := q
      cases q2
      have hj : -(2 ^ 62) ≤ j ∧ j < 2 ^ 62 := of_decide_eq_true hj
      exact ⟨j, by rw [RepK.int q1], hj.1, hj.2, h _ H' Z' p wlk_range⟩
    · exact h.elim
  · rename_i e
    rw [e]; exact h
  · exact h.elim
theorem pI_range2 {tg a b : Expr} {fa : SmL} {p : Pos} (hg : Gl X "range") (hm : X.mg "range" = none) (ha : PA X [a, b] (tA F Wx fa)) (hs : starEach [a, b] X.env = [(false, eval a X.env), (false, eval b X.env)]) (hs2 : starEach [b] X.env = [(false, eval b X.env)]) :
    PI X tg (.Call (.Name "range" p) [a, b] [] pos) (tI F Wx (cRng2 fa)) := by
  refine PI.imp (pi_range2 hg hm ha hs hs2) fun σ H R ⟨r, Z, ρ, W, s, h⟩ => ?_
  refine ⟨r, Z, ρ, W, s, ?_⟩
  unfold cRng2 at h
  split at h
  · rename_i i k j k' W' e
    rw [e]
    split at h
    · rename_i hj
      intro vs H' Z' p q _
      obtain ⟨v, t, rfl, q1, v2, t2, rfl, q2, q3⟩ := q
      cases q3
      simp only [Bool.and_eq_true] at hj
      have hi : -(2 ^ 62) ≤ i ∧ i < 2 ^ 62 := of_decide_eq_true hj.1
      have hj : -(2 ^ 62) ≤ j ∧ j < 2 ^ 62 := of_decide_eq_true hj.2
      exact ⟨i, j, by rw [RepK.int q1, RepK.int q2], ⟨hi.1, hi.2, hj.1, hj.2⟩, h _ H' Z' p wlk_range⟩
    · exact h.elim
  · rename_i e
    rw [e]; exact h
  · exact h.elim

/-! ### for -/
def forN (tg : Tg) (body : SmS) : List D → SmS
  | [] => fun ρ W => some (.nx ρ W)
  | d :: ds => fun ρ W =>
    match aTg tg d ρ with
    | none => none
    | some ρ1 =>
      match body ρ1 W with
      | some (.nx ρ2 W2) => forN tg body ds ρ2 W2
      | some (.ct ρ2 W2) => forN tg body ds ρ2 W2
      | some (.bk ρ2 W2) => some (.nx ρ2 W2)
      | o => o
def cFor (tg : Tg) (it : SmI) (body : SmS) : SmS := fun ρ W =>
  match it ρ W with
  | none => none
  | some (.exc c W') => some (.exc c ρ W')
  | some (.its l W') => forN tg body l ρ W'
/-- a new object or none: the state stands -/
theorem Sim.yld {r : Option Addr} {Z : Addr → Prop} {σ : St} {H H3 : Hp} {ρ : Env'} {W : Ro} (s : Sim F r Z σ H ρ W) (h : H3 = H ∨ ∃ T o, H T = none ∧ H3 = upd H T o) : Sim F r Z σ H3 ρ W ∧ Stay Z H H3 := by
  rcases h with rfl | ⟨T, o, n, rfl⟩
  · exact ⟨s, Stay.refl⟩
  · have p := laid (o := o) s n
    exact ⟨p.sim, p.stay s⟩
theorem pS_for {tgE iter : Expr} {body : List Stmt} {tg : Tg} {it : SmI} (hp : PassesOwn (model X.prog X.w) X.A X.env X.xe) (hc : X.calm = true) (hi : PI X tgE iter (tI F Wx it)) (hg : PG X tgE (tG F tg)) (hb : PSs X body (tS F Wx g))
    (hs : ∀ x, foldedSetIterable iter X.env x = pure x) : PS X (.For tgE iter body [] pos) (tS F Wx (cFor tg it g)) := by
  refine PS.imp (ps_for hp hc hi hg hb hs) fun D σ H ⟨r, Z, ρ, W, s, h⟩ => ?_
  refine ⟨r, Z, ρ, W, s, ?_⟩
  unfold cFor at h
  cases e : it ρ W with
  | none => rw [e] at h; exact h
  | some o =>
    rw [e] at h
    cases o with
    | exc c W' => exact fun H' Z' C p m => h r σ H' Z' C p.sim (p.sp s) m
    | its l W' =>
      dsimp only at h
      intro J H' Z' p wl
      refine ⟨fun i m σ1 H1 => m = l.length - i ∧ i ≤ l.length ∧ ∃ r1 Z1 ρ1 W1, Sim F r1 Z1 σ1 H1 ρ1 W1 ∧ SPost r r1 Z' Z1 H' H1 ∧ EvS F Wx r1 Z1 H1 D (forN tg g (l.drop i) ρ1 W1),
        ⟨l.length, rfl, Nat.zero_le _, r, Z', ρ, W', p.sim, SPost.refl, by rw [List.drop_zero]; exact h.later (p.sp s)⟩, ?_⟩
      rintro i m σ1 H1 ⟨rfl, hil, r1, Z1, ρ1, W1, s1, sp1, h1⟩
      obtain ⟨w1, w2, w3⟩ := wl H1 sp1.stay
      by_cases hlt : i < l.length
      · right
        rw [List.drop_eq_getElem_cons hlt] at h1
        unfold forN at h1
        refine ⟨w1 i hlt, fun σ2 H2 => ∃ r2 Z2 ρ2 W2, Sim F r2 Z2 σ2 H2 ρ2 W2 ∧ SPost r r2 Z' Z2 H' H2 ∧ EvS F Wx r2 Z2 H2 D (forN tg g (l.drop (i + 1)) ρ2 W2), fun σ2 H2 ⟨r2, Z2, ρ2, W2, s2, sp2, h2⟩ => ⟨l.length - (i + 1), by omega, rfl, hlt, r2, Z2, ρ2, W2, s2, sp2, h2⟩, fun x H2 y => ?_⟩
        obtain ⟨hH, hd⟩ := w3 i x H2 y
        obtain ⟨s2, st2⟩ := s1.yld hH
        have q := hd _ (List.getElem?_eq_getElem hlt) r1 Z1 sp1.sub sp1.rw
        cases e2 : aTg tg l[i] ρ1 with
        | none => rw [e2] at h1; exact h1.elim
        | some ρ2 =>
          rw [e2] at h1
          refine ⟨r1, Z1, ρ1, W1, l[i], ρ2, s2, q, e2, fun σ3 s3 _ => ⟨r1, Z1, ρ2, W1, s3, ?_⟩⟩
          have sp2 : SPost r r1 Z' Z1 H' H2 := sp1.trans ⟨fun _ e => e, fun _ z => z, st2⟩
          have h1 := EvS.later (⟨fun _ e => e, fun _ z => z, st2⟩ : SPost r1 r1 Z1 Z1 H1 H2) h1
          dsimp only at h1
          cases e3 : g ρ2 W1 with
          | none => rw [e3] at h1; exact h1.elim
          | some o =>
            rw [e3] at h1
            cases o with
            | nx ρ' W' => exact fun r' σ' H' Z' s' p' => ⟨r', Z', ρ', W', s', sp2.trans p', h1.later p'⟩
            | ct ρ' W' => exact fun r' σ' H' Z' s' p' => ⟨r', Z', ρ', W', s', sp2.trans p', h1.later p'⟩
            | bk ρ' W' => exact h1
            | rt d k W' => exact h1
            | exc c ρ' W' => exact h1
      · left
        have ei : i = l.length := by omega
        subst ei
        rw [List.drop_length] at h1
        exact ⟨w2 _ (Nat.le_refl _), h1 r1 σ1 H1 Z1 s1 SPost.refl⟩

/-! ### while -/
def whileN (c : Sm) (body : SmS) : Nat → SmS
  | 0 => fun _ _ => none
  | n + 1 => fun ρ W =>
    match c ρ W with
    | some (.val (.bl true) _ W1) =>
      match body ρ W1 with
      | some (.nx ρ2 W2) => whileN c body n ρ2 W2
      | some (.ct ρ2 W2) => whileN c body n ρ2 W2
      | some (.bk ρ2 W2) => some (.nx ρ2 W2)
      | o => o
    | some (.val (.bl false) _ W1) => some (.nx ρ W1)
    | some (.exc c W1) => some (.exc c ρ W1)
    | _ => none
theorem pS_while {c : Expr} {fc : Sm} {body : List Stmt} (n : Nat) (hp : PassesOwn (model X.prog X.w) X.A X.env X.xe) (hc : PT X c (tT F Wx fc)) (hb : PSs X body (tS F Wx g)) : PS X (.While c body [] pos) (tS F Wx (whileN fc g n)) := by
  refine PS.imp (ps_while hp hc hb) fun D σ H ⟨r, Z, ρ, W, s, h⟩ => ?_
  refine ⟨fun m σ1 H1 => ∃ r1 Z1 ρ1 W1, Sim F r1 Z1 σ1 H1 ρ1 W1 ∧ EvS F Wx r1 Z1 H1 D (whileN fc g m ρ1 W1), ⟨n, r, Z, ρ, W, s, h⟩, ?_⟩
  rintro m σ1 H1 ⟨r1, Z1, ρ1, W1, s1, h1⟩
  cases m with
  | zero => exact h1.elim
  | succ m =>
    refine ⟨r1, Z1, ρ1, W1, s1, ?_⟩
    unfold whileN at h1
    cases e : fc ρ1 W1 with
    | none => rw [e] at h1; exact h1.elim
    | some o =>
      rw [e] at h1
      cases o with
      | exc c W' => exact fun H' Z' C p m => h1 r1 σ1 H' Z' C p.sim (p.sp s1) m
      | val d k W' =>
        cases d with
        | bl b =>
          intro H2 Z2 p
          cases b with
          | false =>
            rw [if_neg Bool.false_ne_true]
            exact h1 r1 σ1 H2 Z2 p.sim (p.sp s1)
          | true =>
            rw [if_pos rfl]
            have h1 := EvS.later (p.sp s1) h1
            refine ⟨fun σ2 H2 => ∃ r2 Z2 ρ2 W2, Sim F r2 Z2 σ2 H2 ρ2 W2 ∧ EvS F Wx r2 Z2 H2 D (whileN fc g m ρ2 W2), fun σ2 H2 h2 => ⟨m, Nat.lt_succ_self _, h2⟩, r1, Z2, ρ1, W', p.sim, ?_⟩
            dsimp only at h1
            cases e3 : g ρ1 W' with
            | none => rw [e3] at h1; exact h1.elim
            | some o =>
              rw [e3] at h1
              cases o with
              | nx ρ' W' => exact fun r' σ' H' Z' s' p' => ⟨r', Z', ρ', W', s', h1.later p'⟩
              | ct ρ' W' => exact fun r' σ' H' Z' s' p' => ⟨r', Z', ρ', W', s', h1.later p'⟩
              | bk ρ' W' => exact h1
              | rt d k W' => exact h1
              | exc c ρ' W' => exact h1
        | _ => exact h1.elim
end
end Wk

set_option Elab.async false
set_option linter.all false
set_option maxRecDepth 100000
set_option maxHeartbeats 1000000
namespace Wk
open PySem PySem.Spec L2
section
variable {F : Fx} {Wx : WX} {r : Option Addr} {Z Z' Z1 : Addr → Prop} {σ σ2 : St} {H H' H1 : Hp} {ρ ρ2 : Env'} {W W' W1 : Ro}
/-- what an expression keeps, seen from other slots -/
theorem EPost.other (s : Sim F r Z σ H ρ W) (p : EPost F r Z Z' σ2 H H' ρ2 W') : EPost F r Z Z' σ H H' ρ W' := by
  have st : Stay Z H H' := fun b o h i => by
    refine p.keep b o h fun e => ?_
    rcases i with z | z
    · exact (s.core.zin b z).2 e
    · obtain ⟨vs, q⟩ := s.rtrk e
      rw [q] at h; cases h; exact z
  refine ⟨⟨p.sim.core, s.len, fun i d e => ?_, fun i d e => ?_, s.dis⟩, p.sub, p.grow, p.keep⟩
  · obtain ⟨v, e1, q⟩ := s.sh i d e
    exact ⟨v, e1, q.stay st p.sub fun _ e => e⟩
  · obtain ⟨b, e1, q⟩ := s.ow i d e
    obtain ⟨o, eo⟩ := q.body.trk
    refine ⟨b, e1, ⟨fun z => ?_, q.nr, q.n0, q.body.stay st p.sub fun o e => p.keep b o e q.nr⟩⟩
    rcases p.grow b z with z | z
    · exact q.nz z
    · rw [eo] at z; cases z
theorem Sim.yldP {H3 : Hp} (s : Sim F r Z σ H ρ W) (h : H3 = H ∨ ∃ T o, H T = none ∧ H3 = upd H T o) : EPost F r Z Z σ H H3 ρ W := by
  rcases h with rfl | ⟨T, o, n, rfl⟩
  · exact EPost.refl s
  · exact laid s n
/-- a new object, not yet handed out, is written -/
theorem EPost.app {d e : D} {a : Addr} {o : HO} (s : Sim F r Z σ H ρ W) (p : EPost F r Z Z' σ H H' ρ W') (ow : Own F r Z' H' d a) (ns : ∀ (i : Nat) (d' : D), ρ[i]? = some (.ow d') → σ[i]? ≠ some (some (.ref a))) (n : H a = Option.none)
    (hb : ∀ H'', Stay Z' H' H'' → H'' a = some o → Body F.K r Z' H'' e a) : EPost F r Z Z' σ H (upd H' a o) ρ W' ∧ Own F r Z' (upd H' a o) e a ∧ Stay Z' H' (upd H' a o) := by
  obtain ⟨h1, h2⟩ := p.sim.write ow hb
  have q := h1 ρ.length fun j d' _ z => ns j d' z
  rw [List.set_eq_of_length_le (Nat.le_refl _)] at q
  exact ⟨⟨q, p.sub, p.grow, fun b u h k => by rw [upd_ne (ne_of_none h n)]; exact p.keep b u h k⟩, ⟨ow.nz, ow.nr, ow.n0, hb _ h2.stay upd_same⟩, h2.stay⟩

def wipeR : Env' → List Nat → Env'
  | ρ, [] => ρ
  | ρ, v :: vs => (wipeR ρ vs).set v .no
theorem Sim.wipe (s : Sim F r Z σ H ρ W) : ∀ vs : List Nat, Sim F r Z (L2.wipe σ vs) H (wipeR ρ vs) W
  | [] => s
  | v :: vs => (Sim.wipe s vs).setNo
theorem wipe_wipe (vs : List Nat) : L2.wipe (L2.wipe σ vs) vs = L2.wipe σ vs := by
  refine wipe_touch (is := vs) ⟨wipe_length σ vs, fun j hj => wipe_get.2 hj⟩ fun _ h => h
end

/-! ### comprehensions -/
def lcN (tg : Tg) (cond elt : Sm) (ρ0 : Env') : List D → Ro → Option (List D × Ro)
  | [], W => some ([], W)
  | d :: ds, W =>
    match aTg tg d ρ0 with
    | none => none
    | some ρ1 =>
      match cond ρ1 W with
      | some (.val (.bl true) _ W1) =>
        match cFr elt ρ1 W1 with
        | some (.val x _ W2) => (lcN tg cond elt ρ0 ds W2).map fun p => (x :: p.1, p.2)
        | _ => none
      | some (.val (.bl false) _ W1) => lcN tg cond elt ρ0 ds W1
      | _ => none
def cComp (vs : List Nat) (tg : Tg) (it : SmI) (cond elt : Sm) : Sm := fun ρ W =>
  match it ρ W with
  | none => none
  | some (.exc c W') => some (.exc c W')
  | some (.its l W') => if l.length ≤ lim then (lcN tg cond elt (wipeR ρ vs) l W').map fun p => .val (.lst p.1) .fr p.2 else none
abbrev Wx0 : WX := fun _ _ _ _ => False
section
variable {F : Fx} {Wx : WX} {X : Cx}
theorem tLc_of {vs : List Nat} {tg : Tg} {it : SmI} {cond elt : Sm} (hv : ∀ j ∈ tgN tg, j ∈ vs) {σ : St} {H : Hp} {Q : VK} (h : tE F Wx (cComp vs tg it cond elt) σ H Q) :
    tLc (tI F Wx it) (tG F tg) (tT F Wx0 cond) (tE F Wx0 (cFr elt)) vs σ H Q := by
  obtain ⟨r, Z, ρ, W, s, h⟩ := h
  refine ⟨r, Z, ρ, W, s, ?_⟩
  unfold cComp at h
  cases e : it ρ W with
  | none => rw [e] at h; exact h
  | some o =>
    rw [e] at h
    cases o with
    | exc c W' => exact h
    | its l W' =>
      dsimp only at h
      split at h
      case isFalse => exact h.elim
      rename_i hlim
      cases en : lcN tg cond elt (wipeR ρ vs) l W' with
      | none => rw [en] at h; exact h.elim
      | some pr =>
        obtain ⟨ls, Wf⟩ := pr
        rw [en] at h
        intro J H1 Z1 p1 wl A nA
        have nH : H A = none := p1.none nA
        have p2 := laid (o := .lst []) p1.sim nA
        obtain ⟨o2, ns2⟩ := laid_own (l := []) (vs := []) p1.sim nA RepL.nil
        refine ⟨fun i m Hi => m = l.length - i ∧ i ≤ l.length ∧ ∃ Zi Wi ds rest, EPost F r Z Zi σ H Hi ρ Wi ∧ (∀ b, Z1 b → Zi b) ∧ Stay Z1 H1 Hi ∧ Own F r Zi Hi (.lst ds) A ∧ ds.length ≤ i ∧ lcN tg cond elt (wipeR ρ vs) (l.drop i) Wi = some (rest, Wf) ∧ ds ++ rest = ls,
          ⟨l.length, rfl, Nat.zero_le _, Z1, W', [], ls, p1.trans p2, fun _ z => z, p2.stay p1.sim, o2, Nat.le_refl _, by rw [List.drop_zero]; exact en, rfl⟩, ?_⟩
        rintro i m Hi ⟨rfl, hil, Zi, Wi, ds, rest, pi, hzi, sti, owi, hdl, eni, ecat⟩
        obtain ⟨w1, w2, w3⟩ := wl Hi sti
        by_cases hlt : i < l.length
        · right
          rw [List.drop_eq_getElem_cons hlt] at eni
          unfold lcN at eni
          refine ⟨w1 i hlt, fun H2 => ∃ Z2 W2 ds2 rest2, EPost F r Z Z2 σ H H2 ρ W2 ∧ (∀ b, Z1 b → Z2 b) ∧ Stay Z1 H1 H2 ∧ Own F r Z2 H2 (.lst ds2) A ∧ ds2.length ≤ i + 1 ∧ lcN tg cond elt (wipeR ρ vs) (l.drop (i + 1)) W2 = some (rest2, Wf) ∧ ds2 ++ rest2 = ls,
            fun H2 h2 => ⟨l.length - (i + 1), by omega, rfl, hlt, h2⟩, fun x H2 y => ?_⟩
          obtain ⟨hH, hd⟩ := w3 i x H2 y
          have py := pi.sim.yldP hH
          have q := hd _ (List.getElem?_eq_getElem hlt) r Zi hzi fun _ e => e
          have sw := py.sim.wipe vs
          cases e2 : aTg tg l[i] (wipeR ρ vs) with
          | none => rw [e2] at eni; cases eni
          | some ρ1 =>
            rw [e2] at eni
            refine ⟨r, Zi, _, Wi, l[i], ρ1, sw, q, e2, fun σ3 s3 t3 => ⟨(wipe_touch t3 hv).trans (wipe_wipe vs), r, Zi, ρ1, Wi, s3, ?_⟩⟩
            dsimp only at eni
            have ow2 := owi.later py pi.sim
            have st2 : Stay Z1 H1 H2 := sti.trans (py.stay pi.sim) hzi
            cases e3 : cond ρ1 Wi with
            | none => rw [e3] at eni; cases eni
            | some o =>
              rw [e3] at eni
              cases o with
              | exc c W' => cases eni
              | val d k W3 =>
                cases d with
                | bl b =>
                  intro H3 Z3 p3
                  have p3' := EPost.other py.sim p3
                  have ow3 := ow2.later p3' py.sim
                  have st3 : Stay Z1 H1 H3 := st2.trans (p3'.stay py.sim) hzi
                  have hz3 : ∀ b, Z1 b → Z3 b := fun b z => p3.sub b (hzi b z)
                  have pt3 := (pi.trans py).trans p3'
                  cases b with
                  | false =>
                    rw [if_neg Bool.false_ne_true]
                    exact ⟨Z3, W3, ds, rest, pt3, hz3, st3, ow3, by omega, eni, ecat⟩
                  | true =>
                    rw [if_pos rfl]
                    dsimp only at eni
                    refine ⟨r, Z3, ρ1, W3, p3.sim, ?_⟩
                    cases e4 : cFr elt ρ1 W3 with
                    | none => rw [e4] at eni; cases eni
                    | some o =>
                      rw [e4] at eni
                      cases o with
                      | exc c W' => cases eni
                      | val z kz W4 =>
                        intro v H4 Z4 p4 q4 _
                        have kz' : kz = .sh := by
                          unfold cFr cBind cVal at e4
                          cases e2 : elt ρ1 W3 with
                          | none => rw [e2] at e4; cases e4
                          | some o =>
                            rw [e2] at e4
                            cases o with
                            | exc c W' => cases e4
                            | val d' k' W' =>
                              cases k' <;> simp at e4
                              · exact e4.2.1.symm
                              · exact e4.2.1.symm
                        subst kz'
                        obtain ⟨pr, epr, e5⟩ := Option.map_eq_some_iff.mp eni
                        obtain ⟨rest', Wf'⟩ := pr
                        cases e5
                        have p4' := EPost.other pt3.sim p4
                        have ow4 := ow3.later p4' pt3.sim
                        have st4 : Stay Z1 H1 H4 := st3.trans (p4'.stay pt3.sim) hz3
                        have pt4 := pt3.trans p4'
                        obtain ⟨acc, ea, ra⟩ := ow4.body
                        have q4 : Rep F.K r Z4 H4 z v := q4
                        have hal := ra.length
                        refine ⟨acc, ea, line_lt (by omega), ?_⟩
                        obtain ⟨pa, oa, sa⟩ := EPost.app (e := .lst (ds ++ [z])) (o := .lst (acc ++ [v])) s pt4 ow4 (fun i' d' ei => ns2 i' d' ei) nH
                          fun H'' st e => ⟨_, e, (ra.append (RepL.cons q4 RepL.nil)).stay st (fun _ z => z) fun _ e => e⟩
                        exact ⟨Z4, W4, ds ++ [z], rest', pa, fun b zb => p4.sub b (hz3 b zb), st4.trans sa (fun b zb => p4.sub b (hz3 b zb)), oa, by rw [List.length_append]; simp; omega, epr, by rw [← ecat]; simp⟩
                | _ => cases eni
        · left
          have ei : i = l.length := by omega
          subst ei
          rw [List.drop_length] at eni
          simp only [lcN, Option.some.injEq, Prod.mk.injEq] at eni
          obtain ⟨e1, e2⟩ := eni
          subst e1 e2
          rw [List.append_nil] at ecat
          subst ecat
          refine ⟨w2 _ (Nat.le_refl _), h _ Hi Zi pi ⟨A, rfl, owi, ns2⟩ fun _ a ea => ?_⟩
          cases ea
          exact nH
theorem pTs_nil : PTs X [] (tT F Wx (cC (.bl true))) := ⟨fun pins s σ H Q I ⟨r, Z, ρ, W, s1, h⟩ => pts_nil.run pins s σ H Q I (h H Z (EPost.refl s1))⟩
theorem pE_lc {elt tgE iter : Expr} {ifs : List Expr} {scope : Scope} {own : List (Str × Nat)} {pos : Pos} {tg : Tg} {it : SmI} {cond f : Sm} (hc : X.calm = true) (hN : X.N.Nodup) (hi : PI X tgE iter (tI F Wx it)) (ok : BlkOk X.N X.env.scope scope own)
    (hv : ∀ j ∈ tgN tg, j ∈ own.map (·.2))
    (hg : ∀ (s : Shared) (H : Hp) (C : Addr) (cl : List (Str × Addr)) (fp : List Addr), PG (X.blk s H scope (compEnvC scope cl C X.env) fp) tgE (tG F tg)) (ht : ∀ (s : Shared) (H : Hp) (C : Addr) (cl : List (Str × Addr)) (fp : List Addr), PTs (X.blk s H scope (compEnvC scope cl C X.env) fp) ifs (tT F Wx0 cond))
    (he : ∀ (s : Shared) (H : Hp) (C : Addr) (cl : List (Str × Addr)) (fp : List Addr), PE (X.blk s H scope (compEnvC scope cl C X.env) fp) elt (tE F Wx0 f)) (hs : ∀ x, foldedSetIterable iter X.env x = pure x) :
    PE X (.ListComp elt [⟨tgE, iter, ifs, 0⟩] scope pos) (tE F Wx (cComp (own.map (·.2)) tg it cond f)) :=
  PE.imp (pe_lc hc hN hi ok hg ht (fun s H C cl fp => pE_fr (he s H C cl fp)) hs) fun _ _ _ h => tLc_of hv h
theorem pS_setLc {i : Nat} {y : Str} {py : Pos} {elt tgE iter : Expr} {ifs : List Expr} {scope : Scope} {own : List (Str × Nat)} {pos spos : Pos} {tg : Tg} {it : SmI} {cond f : Sm} (hc : X.calm = true) (hN : X.N.Nodup) (hy : X.N[i]? = some y) (hyl : X.env.scope.names.lookup y = some .local)
    (hsw : swapsWith (.ListComp elt [⟨tgE, iter, ifs, 0⟩] scope pos) (some (.Name y py)) spos.line X.env = pure true) (hi : PI X tgE iter (tI F Wx it)) (ok : BlkOk X.N X.env.scope scope own)
    (hv : ∀ j ∈ tgN tg, j ∈ own.map (·.2))
    (hg : ∀ (s : Shared) (H : Hp) (C : Addr) (cl : List (Str × Addr)) (fp : List Addr), PG (X.blk s H scope (compEnvC scope cl C X.env) fp) tgE (tG F tg)) (ht : ∀ (s : Shared) (H : Hp) (C : Addr) (cl : List (Str × Addr)) (fp : List Addr), PTs (X.blk s H scope (compEnvC scope cl C X.env) fp) ifs (tT F Wx0 cond))
    (he : ∀ (s : Shared) (H : Hp) (C : Addr) (cl : List (Str × Addr)) (fp : List Addr), PE (X.blk s H scope (compEnvC scope cl C X.env) fp) elt (tE F Wx0 f)) (hs : ∀ x, foldedSetIterable iter X.env x = pure x) :
    PS X (.Assign [.Name y py] (.ListComp elt [⟨tgE, iter, ifs, 0⟩] scope pos) spos) (tS F Wx (cAsg i (cComp (own.map (·.2)) tg it cond f))) := by
  refine PS.imp (ps_setLc hc hN hy hyl hsw hi ok hg ht (fun s H C cl fp => pE_fr (he s H C cl fp)) hs) fun D σ H h => ?_
  exact tLc_of hv (tS_asg h)

/-! ### x.append(e), x.extend(e) -/
def appI (i : Nat) (ds : List D) (ρ : Env') : Option Env' :=
  match ρ[i]? with
  | some (.ow (.lst l)) => if l.length + ds.length < lim then some (ρ.set i (.ow (.lst (l ++ ds)))) else none
  | _ => none
def heldL (ρ : Env') (i : Nat) : Bool := match ρ[i]? with | some (.ow (.lst _)) => true | _ => false
theorem heldL_ok {ρ : Env'} {i : Nat} (h : heldL ρ i = true) : ∃ l, ρ[i]? = some (.ow (.lst l)) := by
  unfold heldL at h
  split at h
  · rename_i l e; exact ⟨l, e⟩
  · cases h
def cApp (i : Nat) (f : Sm) : SmS := fun ρ W => if heldL ρ i then sBind (cFr f) (onSh fun d ρ W => (appI i [d] ρ).map fun ρ' => .nx ρ' W) ρ W else none
def cExt (i : Nat) (f : Sm) : SmS := fun ρ W => if heldL ρ i then sBind f (fun d _ ρ W => match d with | .lst l => (appI i l ρ).map fun ρ' => .nx ρ' W | _ => none) ρ W else none
theorem appI_ok {r : Option Addr} {Z : Addr → Prop} {σ : St} {H : Hp} {ρ ρ' : Env'} {W : Ro} {i : Nat} {ds : List D} {vs : List V} {v0 : V} (s : Sim F r Z σ H ρ W) (h0 : σ[i]? = some (some v0)) (qd : RepL F.K r Z H ds vs) (e : appI i ds ρ = some ρ') :
    ∃ a us, v0 = .ref a ∧ H a = some (.lst us) ∧ us.length + vs.length < lim ∧ Sim F r Z σ (upd H a (.lst (us ++ vs))) ρ' W ∧ SPost r r Z Z H (upd H a (.lst (us ++ vs))) := by
  unfold appI at e
  split at e
  · rename_i l eo
    split at e
    · rename_i hl
      cases e
      obtain ⟨a, e1, o⟩ := s.ow i _ eo
      rw [h0] at e1; cases e1
      obtain ⟨us, ev, rl⟩ := o.body
      obtain ⟨s1, p1⟩ := s.writeAt (o := .lst (us ++ vs)) (e := .lst (l ++ ds)) eo h0 o fun H' st e => ⟨_, e, (rl.append qd).stay st (fun _ z => z) fun _ e => e⟩
      exact ⟨a, us, rfl, ev, by rw [← rl.length, ← qd.length]; exact hl, s1, p1⟩
    · cases e
  · cases e
theorem slot_list {r : Option Addr} {Z : Addr → Prop} {σ : St} {H : Hp} {ρ : Env'} {W : Ro} {i : Nat} {l : List D} {v0 : V} (s : Sim F r Z σ H ρ W) (h0 : σ[i]? = some (some v0)) (e : ρ[i]? = some (.ow (.lst l))) : ∃ a vs, v0 = .ref a ∧ H a = some (.lst vs) := by
  obtain ⟨a, e1, o⟩ := s.ow i _ e
  rw [h0] at e1; cases e1
  obtain ⟨vs, ev, _⟩ := o.body
  exact ⟨a, vs, rfl, ev⟩
theorem RepK.list {r : Option Addr} {Z : Addr → Prop} {σ : St} {H : Hp} {ρ : Env'} {l : List D} {v : V} : ∀ {k : Kd}, RepK F r Z σ H ρ k (.lst l) v → ∃ a vs, v = .ref a ∧ H a = some (.lst vs) ∧ RepL F.K r Z H l vs
  | .sh, h => by
    simp only [RepK, Rep] at h
    obtain ⟨a, vs, e, _, q, l⟩ := h
    exact ⟨a, vs, e, q, l⟩
  | .bo, ⟨a, e, o⟩ => let ⟨vs, q, l⟩ := o.body; ⟨a, vs, e, q, l⟩
  | .fr, ⟨a, e, o, _⟩ => let ⟨vs, q, l⟩ := o.body; ⟨a, vs, e, q, l⟩
theorem pS_app {i : Nat} {x : Str} {xp ap cp pos : Pos} {e : Expr} {f : Sm} (hK : X.K = F.K) (hN : X.N[i]? = some x) (hv : Vis X.env.scope x) (hd : (x == ("__debug__" : Str)) = false) (hcd : (x == ("__classdict__" : Str)) = false)
    (he : PE X e (tE F Wx f)) (hs : starEach [e] X.env = [(false, eval e X.env)]) (hline : (ap.endLine == cp.line) = true)
    (hfew : ((backTo cp (starEach [e] X.env)).all (fun x => !x.1) && (backToKw cp (keywordEach [] X.env)).all (fun x => x.1.isSome)
      && decide ([e].length + ([] : List Keyword).length + (if ([] : List Keyword).isEmpty then 0 else 1) < 30)) = true) :
    PS X (.Expr (.Call (.Attribute (.Name x xp) "append" ap) [e] [] cp) pos) (tS F Wx (cApp i f)) := by
  refine PS.imp (ps_expr (pe_bm PySem.F.plainAttrs_list PySem.F.slot_list_append PySem.F.type_list_append mt_append (pe_var hN hv hd hcd) (pa_cons (pE_fr he) pa_nil (by rw [hs] <;> rfl)) (by rfl) hfew hline (by rw [hs] <;> rfl) (by rfl))) fun D σ H ⟨r, Z, ρ, W, s, h⟩ => ?_
  unfold cApp at h
  cases hk : heldL ρ i with
  | false => rw [hk] at h; exact h.elim
  | true =>
    rw [hk, if_pos rfl] at h
    obtain ⟨l, el⟩ := heldL_ok hk
    obtain ⟨a0, e0, o0⟩ := s.ow i _ el
    obtain ⟨us0, eu0, _⟩ := o0.body
    refine ⟨_, e0, .inl ⟨rfl, us0, .inl (.inl eu0)⟩, ?_⟩
    refine tE_mono (tS_bind s h) fun v H1 ⟨Z1, d, kd, W1, p, q, _, h⟩ => ?_
    cases kd with
    | bo => exact h.elim
    | fr => exact h.elim
    | sh =>
      dsimp only [onSh] at h
      cases ea : appI i [d] ρ with
      | none => rw [ea] at h; exact h.elim
      | some ρ' =>
        rw [ea] at h
        obtain ⟨a, us, e1, e2, hl, s1, p1⟩ := appI_ok (vs := [v]) p.sim e0 (RepL.cons q RepL.nil) ea
        exact ⟨a, us, v, e1, rfl, e2, line_lt (Nat.lt_of_succ_lt hl), h r σ _ Z1 s1 p1⟩
theorem pS_ext {i : Nat} {x : Str} {xp ap cp pos : Pos} {e : Expr} {f : Sm} (hK : X.K = F.K) (hN : X.N[i]? = some x) (hv : Vis X.env.scope x) (hd : (x == ("__debug__" : Str)) = false) (hcd : (x == ("__classdict__" : Str)) = false)
    (he : PE X e (tE F Wx f)) (hs : starEach [e] X.env = [(false, eval e X.env)]) (hline : (ap.endLine == cp.line) = true)
    (hfew : ((backTo cp (starEach [e] X.env)).all (fun x => !x.1) && (backToKw cp (keywordEach [] X.env)).all (fun x => x.1.isSome)
      && decide ([e].length + ([] : List Keyword).length + (if ([] : List Keyword).isEmpty then 0 else 1) < 30)) = true) :
    PS X (.Expr (.Call (.Attribute (.Name x xp) "extend" ap) [e] [] cp) pos) (tS F Wx (cExt i f)) := by
  refine PS.imp (ps_expr (pe_bm PySem.F.plainAttrs_list PySem.F.slot_list_extend PySem.F.type_list_extend mt_extend (pe_var hN hv hd hcd) (pa_cons he pa_nil (by rw [hs] <;> rfl)) (by rfl) hfew hline (by rw [hs] <;> rfl) (by rfl))) fun D σ H ⟨r, Z, ρ, W, s, h⟩ => ?_
  unfold cExt at h
  cases hk : heldL ρ i with
  | false => rw [hk] at h; exact h.elim
  | true =>
    rw [hk, if_pos rfl] at h
    obtain ⟨l, el⟩ := heldL_ok hk
    obtain ⟨a0, e0, o0⟩ := s.ow i _ el
    obtain ⟨us0, eu0, _⟩ := o0.body
    refine ⟨_, e0, .inl ⟨rfl, us0, .inl (.inl eu0)⟩, ?_⟩
    refine tE_mono (tS_bind s h) fun v H1 ⟨Z1, d, kd, W1, p, q, _, h⟩ => ?_
    cases d with
    | lst dl =>
      dsimp only at h
      obtain ⟨b, ws, eb, hb, rl⟩ := q.list
      cases ea : appI i dl ρ with
      | none => rw [ea] at h; exact h.elim
      | some ρ' =>
        rw [ea] at h
        obtain ⟨a, us, e1, e2, hl, s1, p1⟩ := appI_ok (vs := ws) p.sim e0 rl ea
        exact ⟨a, b, us, ws, e1, by rw [eb], e2, hb, line_le (Nat.le_of_lt hl), h r σ _ Z1 s1 p1⟩
    | _ => exact h.elim
end
end Wk

set_option Elab.async false
set_option linter.all false
set_option maxRecDepth 100000
set_option maxHeartbeats 1000000
namespace Wk
open PySem PySem.Spec L2
/-! ### a, b = x, y -/
def putAll : List Nat → List (D × Kd) → Env' → Option Env'
  | [], [], ρ => some ρ
  | i :: is, (d, k) :: l, ρ => match put i d k ρ with | none => none | some ρ' => putAll is l ρ'
  | _, _, _ => none
def setAll : List Nat → List V → St → St
  | i :: is, v :: vs, σ => setAll is vs (σ.set i (some v))
  | _, _, σ => σ
section
variable {F : Fx} {Wx : WX} {X : Cx}
theorem RepKs.put {r : Option Addr} {Z : Addr → Prop} {σ : St} {H : Hp} {ρ ρ' : Env'} {i : Nat} {d : D} {k : Kd} {v : V} (q : RepK F r Z σ H ρ k d v) (e : put i d k ρ = some ρ') :
    ∀ {l : List (D × Kd)} {vs : List V}, RepKs F r Z σ H ρ l vs → (k = .fr → ∀ a, v = .ref a → Apart a l vs) → RepKs F r Z (σ.set i (some v)) H ρ' l vs
  | [], _, h, _ => h
  | (x, kx) :: l, _, ⟨u, t, e1, a, b⟩, ap => by
    subst e1
    have ap' : k = .fr → ∀ a, v = .ref a → Apart a l t := fun kf a ea => by
      obtain ⟨_, _, e2, _, h⟩ := ap kf a ea
      cases e2; exact h
    refine ⟨u, t, rfl, ?_, RepKs.put q e b ap'⟩
    cases kx with
    | sh => exact a
    | bo => exact a
    | fr =>
      obtain ⟨a1, ea, o, ns⟩ := a
      refine ⟨a1, ea, o, fun j d' ej es => ?_⟩
      cases k with
      | bo => cases e
      | sh =>
        cases e
        rcases set_get ej with ⟨_, g⟩ | ⟨n, g⟩
        · cases g
        · rw [List.getElem?_set_ne (Ne.symm n)] at es
          exact ns j d' g es
      | fr =>
        cases e
        rcases set_get ej with ⟨ej1, g⟩ | ⟨n, g⟩
        · subst ej1
          obtain ⟨a0, ea0, _⟩ := q
          rcases set_get es with ⟨_, g2⟩ | ⟨n2, _⟩
          · obtain ⟨_, _, e2, h2, _⟩ := ap rfl a0 ea0
            cases e2
            injection g2 with g2
            exact h2 rfl (by rw [ea, g2, ea0])
          · exact n2 rfl
        · rw [List.getElem?_set_ne (Ne.symm n)] at es
          exact ns j d' g es
theorem Sim.putAll {r : Option Addr} {Z : Addr → Prop} {H : Hp} {W : Ro} {Hs : Hp} : ∀ {is : List Nat} {l : List (D × Kd)} {vs : List V} {σ : St} {ρ ρ' : Env'}, Sim F r Z σ H ρ W → RepKs F r Z σ H ρ l vs → FrOk Hs l vs → Wk.putAll is l ρ = some ρ' → Sim F r Z (setAll is vs σ) H ρ' W ∧ vs.length = is.length
  | [], [], vs, σ, ρ, ρ', s, h, _, e => by
    cases h
    simp only [Wk.putAll, Option.some.injEq] at e
    subst e
    exact ⟨s, rfl⟩
  | i :: is, (d, k) :: l, vs, σ, ρ, ρ', s, ⟨v, t, e1, a, b⟩, fo, e => by
    subst e1
    unfold Wk.putAll at e
    cases e2 : Wk.put i d k ρ with
    | none => rw [e2] at e; cases e
    | some ρ1 =>
      rw [e2] at e
      obtain ⟨_, _, e3, f1, f2⟩ := fo
      cases e3
      obtain ⟨h1, h2⟩ := Sim.putAll (s.put a e2) (b.put a e2 fun kf a0 ea => (f1 kf a0 ea).2) f2 e
      exact ⟨h1, by simp [h2]⟩
  | [], _ :: _, _, _, _, _, _, _, _, e => by cases e
  | _ :: _, [], _, _, _, _, _, _, _, e => by cases e
def sBindL (f : SmL) (g : List (D × Kd) → SmS) : SmS := fun ρ W =>
  match f ρ W with
  | none => none
  | some (.exc c W') => some (.exc c ρ W')
  | some (.vals l W') => g l ρ W'
theorem tS_bindL {r : Option Addr} {Z : Addr → Prop} {σ : St} {H : Hp} {ρ : Env'} {W : Ro} {Dn : Ends} {f : SmL} {k : List (D × Kd) → SmS} (s : Sim F r Z σ H ρ W) (h : EvS F Wx r Z H Dn (sBindL f k ρ W)) :
    tA F Wx f σ H fun vs H1 => ∃ Z1 l W1, EPost F r Z Z1 σ H H1 ρ W1 ∧ RepKs F r Z1 σ H1 ρ l vs ∧ FrOk H l vs ∧ EvS F Wx r Z1 H1 Dn (k l ρ W1) := by
  refine ⟨r, Z, ρ, W, s, ?_⟩
  unfold sBindL at h
  cases e : f ρ W with
  | none => rw [e] at h; exact h
  | some o =>
    rw [e] at h
    cases o with
    | exc c W' => exact fun H' Z' C p m => h r σ H' Z' C p.sim (p.sp s) m
    | vals l W' => exact fun v H' Z' p q fo => ⟨Z', l, W', p, q, fo, EvS.later (p.sp s) h⟩
def cPar (is : List Nat) (f : SmL) : SmS := sBindL f fun l ρ W => if l.length ≤ lim then (putAll is l ρ).map fun ρ' => .nx ρ' W else none
theorem tS_par {is : List Nat} {f : SmL} {D : Ends} {σ : St} {H : Hp} (h : tS F Wx (cPar is f) D σ H) : tA F Wx f σ H fun vs H1 => vs.length ≤ lim ∧ vs.length = is.length ∧ D.nx (setAll is vs σ) H1 ∧ ∀ p o, H1 p = none → D.nx (setAll is vs σ) (upd H1 p o) := by
  obtain ⟨r, Z, ρ, W, s, h⟩ := h
  refine tA_mono (tS_bindL s h) fun vs H1 ⟨Z1, l, W1, p, q, fo, h⟩ => ?_
  split at h
  case isFalse => exact h.elim
  rename_i hl
  cases e : Wk.putAll is l ρ with
  | none => rw [e] at h; exact h.elim
  | some ρ' =>
    rw [e] at h
    have h : ∀ r' σ' H' Z', Sim F r' Z' σ' H' ρ' W1 → SPost r r' Z1 Z' H1 H' → D.nx σ' H' := h
    obtain ⟨s1, hn⟩ := Sim.putAll p.sim q fo e
    have hl2 : l.length = vs.length := by
      have h2 : ∀ {l : List (Wk.D × Kd)} {vs : List V}, RepKs F r Z1 σ H1 ρ l vs → l.length = vs.length := by
        intro l
        induction l with
        | nil => intro vs h; cases h; rfl
        | cons p l ih => intro vs ⟨v, t, e, _, b⟩; subst e; simp [ih b]
      exact h2 q
    refine ⟨by omega, hn, h r _ H1 Z1 s1 SPost.refl, fun a o na => ?_⟩
    have pl := laid (o := o) s1 na
    exact h r _ _ Z1 pl.sim (pl.sp s1)
theorem pS_par2 {i j : Nat} {x y : Str} {a b : Expr} {fa : SmL} {px py pt pos : Pos} {kt k2 pt2} (hc : X.calm = true) (hN : X.N.Nodup) (hi : X.N[i]? = some x) (hj : X.N[j]? = some y) (hij : i ≠ j)
    (hx : X.env.scope.names.lookup x = some .local) (hy : X.env.scope.names.lookup y = some .local) (ha : PA X [a, b] (tA F Wx fa))
    (hw : swappedStores [.Tuple [.Name x px, .Name y py] kt pt] (.Tuple [a, b] k2 pt2) X.env = pure (some [x, y])) :
    PS X (.Assign [.Tuple [.Name x px, .Name y py] kt pt] (.Tuple [a, b] k2 pt2) pos) (tS F Wx (cPar [i, j] fa)) := by
  refine PS.imp (ps_par hc hN hi hj hij hx hy ha hw (by rfl)) fun D σ H h => ?_
  refine tA_mono (tS_par h) fun vs H1 ⟨_, hn, h, _⟩ => ?_
  match vs, hn, h with
  | [v, w], _, h => exact ⟨v, w, rfl, h⟩
theorem pS_par3 {i j l : Nat} {x y z : Str} {a b c : Expr} {fa : SmL} {px py pz pt pos : Pos} {kt k2 pt2} (hc : X.calm = true) (hN : X.N.Nodup) (hi : X.N[i]? = some x) (hj : X.N[j]? = some y) (hl : X.N[l]? = some z) (hij : i ≠ j) (hil : i ≠ l) (hjl : j ≠ l)
    (hx : X.env.scope.names.lookup x = some .local) (hy : X.env.scope.names.lookup y = some .local) (hz : X.env.scope.names.lookup z = some .local) (ha : PA X [a, b, c] (tA F Wx fa))
    (hw : swappedStores [.Tuple [.Name x px, .Name y py, .Name z pz] kt pt] (.Tuple [a, b, c] k2 pt2) X.env = pure (some [x, y, z])) :
    PS X (.Assign [.Tuple [.Name x px, .Name y py, .Name z pz] kt pt] (.Tuple [a, b, c] k2 pt2) pos) (tS F Wx (cPar [i, j, l] fa)) := by
  refine PS.imp (ps_par3 hc hN hi hj hl hij hil hjl hx hy hz ha hw (by rfl)) fun D σ H h => ?_
  refine tA_mono (tS_par h) fun vs H1 ⟨_, hn, h, _⟩ => ?_
  match vs, hn, h with
  | [u, v, w], _, h => exact ⟨u, v, w, rfl, h⟩
/-- plain names, one after another -/
def gNs (is : List Nat) : TGs := fun vs σ H Q => vs.length = is.length ∧ Q (setAll is vs σ) H
theorem pgs_names_nil : PGs X [] (gNs []) := PGs.imp pgs_nil fun v σ H Q ⟨h1, h2⟩ => by
  cases v with
  | nil => exact ⟨rfl, h2⟩
  | cons _ _ => simp at h1
theorem pgs_names_cons {i : Nat} {x : Str} {px : Pos} {es : List Expr} {is : List Nat} (hN : X.N.Nodup) (hi : X.N[i]? = some x) (hx : Loc X.env.scope x) (hf : X.fn x = true ∨ X.env.scope.names.lookup x = some .local) (h2 : PGs X es (gNs is))
    (hs : (assignEach (.Name x px :: es) X.env).map (·.2) = assign (.Name x px) X.env :: (assignEach es X.env).map (·.2)) : PGs X (.Name x px :: es) (gNs (i :: is)) := by
  refine PGs.imp (pgs_cons (pg_name hN hi hx hf) h2 hs) fun v σ H Q ⟨h1, h2⟩ => ?_
  cases v with
  | nil => simp at h1
  | cons v vs => exact ⟨v, vs, rfl, by simpa using h1, h2⟩
theorem pS_parN {is : List Nat} {ts es : List Expr} {fa : SmL} {kt k2 : Nat} {pt pt2 pos : Pos} (hc : X.calm = true) (ha : PA X es (tA F Wx fa)) (hg : PGs X ts (gNs is))
    (hn : (assignEach ts X.env).length = is.length) (hst : (assignEach ts X.env).findIdx? (·.1) = none) (hw : swappedStores [.Tuple ts kt pt] (.Tuple es k2 pt2) X.env = pure none)
    (h1 : (assignEach [.Tuple ts kt pt] X.env).map (·.2) = [assign (.Tuple ts kt pt) X.env]) :
    PS X (.Assign [.Tuple ts kt pt] (.Tuple es k2 pt2) pos) (tS F Wx (cPar is fa)) := by
  refine PS.imp (ps_asg (pe_tup ha) (pg_tup hc hg hn hst) (by rfl) hw h1) fun D σ H h => ?_
  refine tA_mono (tS_par h) fun vs H1 ⟨hl, hn, _, h⟩ => ?_
  exact ⟨line_le hl, fun p np => ⟨p, vs, rfl, .inl (.inl upd_same), hn, hn, h p _ np⟩⟩
/-- a, b = e, e a tuple's value -/
def cUn (is : List Nat) (f : Sm) : SmS := sBind f fun d k ρ W => match d with | .tup ds => (putAll is (ds.map fun d => (d, .sh)) ρ).map fun ρ' => .nx ρ' W | _ => none
theorem pS_un {is : List Nat} {ts : List Expr} {e : Expr} {f : Sm} {kt : Nat} {pt pos : Pos} (hc : X.calm = true) (hK : X.K = F.K) (he : PE X e (tE F Wx f)) (hg : PGs X ts (gNs is))
    (hn : (assignEach ts X.env).length = is.length) (hst : (assignEach ts X.env).findIdx? (·.1) = none) (hs : swapsWithSole [.Tuple ts kt pt] e pos.line X.env = pure false) (hw : swappedStores [.Tuple ts kt pt] e X.env = pure none)
    (h1 : (assignEach [.Tuple ts kt pt] X.env).map (·.2) = [assign (.Tuple ts kt pt) X.env]) :
    PS X (.Assign [.Tuple ts kt pt] e pos) (tS F Wx (cUn is f)) := by
  refine PS.imp (ps_asg he (pg_tup hc hg hn hst) hs hw h1) fun D σ H ⟨r, Z, ρ, W, s, h⟩ => ?_
  refine tE_mono (tS_bind s h) fun v H1 ⟨Z1, d, kd, W1, p, q, _, h⟩ => ?_
  cases d with
  | tup ds =>
    dsimp only at h
    cases ep : Wk.putAll is (ds.map fun d => (d, .sh)) ρ with
    | none => rw [ep] at h; exact h.elim
    | some ρ' =>
      rw [ep] at h
      have q' : Rep F.K r Z1 H1 (.tup ds) v := by
        cases kd with
        | sh => exact q
        | bo => obtain ⟨a, _, o⟩ := q; exact o.body.elim
        | fr => obtain ⟨a, _, o, _⟩ := q; exact o.body.elim
      simp only [Rep] at q'
      obtain ⟨a, vs, rfl, ht, rl⟩ := q'
      have both : ∀ {ds : List Wk.D} {vs : List V}, RepL F.K r Z1 H1 ds vs → RepKs F r Z1 σ H1 ρ (ds.map fun d => (d, .sh)) vs ∧ FrOk H1 (ds.map fun d => (d, Kd.sh)) vs := by
        intro ds
        induction ds with
        | nil => intro vs h; simp only [RepL] at h; subst h; exact ⟨rfl, trivial⟩
        | cons d ds ih =>
          intro vs h
          simp only [RepL] at h
          obtain ⟨v, t, rfl, q, l⟩ := h
          obtain ⟨i1, i2⟩ := ih l
          exact ⟨⟨v, t, rfl, q, i1⟩, ⟨v, t, rfl, (fun z => nomatch z), i2⟩⟩
      obtain ⟨b1, b2⟩ := both rl
      obtain ⟨s1, hl⟩ := Sim.putAll p.sim b1 b2 ep
      exact ⟨a, vs, rfl, by rw [hK]; exact ht, hl, hl, h r _ H1 Z1 s1 SPost.refl⟩
  | _ => exact h.elim

/-! ### stores of shared values: names and places -/
inductive Tp where
  | nm (i : Nat)
  | si (i : Nat) (f : Sm)
def storeAll : List Tp → List D → Env' → Ro → Option (Env' × Ro)
  | [], [], ρ, W => some (ρ, W)
  | .nm i :: ts, d :: ds, ρ, W => storeAll ts ds (ρ.set i (.sh d)) W
  | .si i f :: ts, d :: ds, ρ, W =>
    if held ρ i then
      match f ρ W with
      | some (.val ix _ W1) => match setI i ix d ρ W1 with
        | some (ρ', W') => storeAll ts ds ρ' W'
        | none => none
      | _ => none
    else none
  | _, _, _, _ => none
def gPs (F : Fx) (ts : List Tp) : TGs := fun vs σ H Q => ∃ r Z ρ W ds ρ' W', Sim F r Z σ H ρ W ∧ RepL F.K r Z H ds vs ∧ storeAll ts ds ρ W = some (ρ', W') ∧ ∀ r' σ' H' Z', Sim F r' Z' σ' H' ρ' W' → SPost r r' Z Z' H H' → Q σ' H'
theorem pgP_nil : PGs X [] (gPs F []) := PGs.imp pgs_nil fun v σ H Q ⟨r, Z, ρ, W, ds, ρ', W', s, q, e, h⟩ => by
  cases ds with
  | nil =>
    simp only [RepL] at q
    simp only [storeAll, Option.some.injEq, Prod.mk.injEq] at e
    obtain ⟨rfl, rfl⟩ := e
    exact ⟨q, h r σ H Z s SPost.refl⟩
  | cons _ _ => cases e
theorem pgP_name {i : Nat} {x : Str} {px : Pos} {es : List Expr} {ts : List Tp} (hN : X.N.Nodup) (hi : X.N[i]? = some x) (hx : Loc X.env.scope x) (hf : X.fn x = true ∨ X.env.scope.names.lookup x = some .local) (h2 : PGs X es (gPs F ts))
    (hs : (assignEach (.Name x px :: es) X.env).map (·.2) = assign (.Name x px) X.env :: (assignEach es X.env).map (·.2)) : PGs X (.Name x px :: es) (gPs F (.nm i :: ts)) := by
  refine PGs.imp (pgs_cons (pg_name hN hi hx hf) h2 hs) fun v σ H Q ⟨r, Z, ρ, W, ds, ρ', W', s, q, e, h⟩ => ?_
  cases ds with
  | nil => cases e
  | cons d ds =>
    simp only [RepL] at q
    obtain ⟨x, xs, rfl, q1, q2⟩ := q
    exact ⟨x, xs, rfl, r, Z, _, W, ds, ρ', W', s.setSh q1, q2, e, h⟩
theorem pgP_sub {i : Nat} {x : Str} {px sp : Pos} {ei : Expr} {fi : Sm} {es : List Expr} {ts : List Tp} (hN : X.N[i]? = some x) (hv : Vis X.env.scope x) (hd : (x == ("__debug__" : Str)) = false) (hcd : (x == ("__classdict__" : Str)) = false)
    (hi : PE X ei (tE F Wx0 fi)) (ha : ∀ v, assign (.Subscript (.Name x px) ei sp) X.env v = (do
      let ov ← holding [v] (eval (.Name x px) X.env)
      let iv ← holding [v, ov] (eval ei X.env)
      standAt sp
      holding [v, ov, iv] (setItem ov iv v)
      release [v, ov, iv] [])) (h2 : PGs X es (gPs F ts))
    (hs : (assignEach (.Subscript (.Name x px) ei sp :: es) X.env).map (·.2) = assign (.Subscript (.Name x px) ei sp) X.env :: (assignEach es X.env).map (·.2)) : PGs X (.Subscript (.Name x px) ei sp :: es) (gPs F (.si i fi :: ts)) := by
  refine PGs.imp (pgs_cons (pg_sub (pe_var hN hv hd hcd) hi set_list ha) h2 hs) fun v σ H Q ⟨r, Z, ρ, W, ds, ρ', W', s, q, e, h⟩ => ?_
  cases ds with
  | nil => cases e
  | cons d ds =>
    simp only [RepL] at q
    obtain ⟨x, xs, rfl, q1, q2⟩ := q
    unfold storeAll at e
    split at e
    case isFalse => cases e
    rename_i hk
    obtain ⟨v0, e0⟩ := s.held hk
    refine ⟨x, xs, rfl, v0, e0, r, Z, ρ, W, s, ?_⟩
    cases e1 : fi ρ W with
    | none => rw [e1] at e; cases e
    | some o =>
      rw [e1] at e
      cases o with
      | exc c W' => cases e
      | val ix k W1 =>
        dsimp only at e
        intro vi H1 Z1 p1 qi _
        cases e2 : setI i ix d ρ W1 with
        | none => rw [e2] at e; cases e
        | some pr =>
          obtain ⟨ρ1, W2⟩ := pr
          rw [e2] at e
          refine setI_ok p1.sim e0 qi (Rep.later p1 s q1) e2 fun H2 s2 sp2 => ?_
          have sp1 := (p1.sp s).trans sp2
          exact ⟨r, Z1, ρ1, W2, ds, ρ', W', s2, q2.stay sp1.stay sp1.sub sp1.rw, e, fun r' σ' H' Z' s' sp' => h r' σ' H' Z' s' (sp1.trans sp')⟩
def cStore (ts : List Tp) (f : SmL) : SmS := sBindL f fun l ρ W => match shs l with
  | some ds => if ds.length ≤ lim then (storeAll ts ds ρ W).map fun p => .nx p.1 p.2 else none
  | none => none
theorem pS_store {tps : List Tp} {ts es : List Expr} {fa : SmL} {kt k2 : Nat} {pt pt2 pos : Pos} (hc : X.calm = true) (ha : PA X es (tA F Wx fa)) (hg : PGs X ts (gPs F tps))
    (hn : (assignEach ts X.env).length = tps.length) (hst : (assignEach ts X.env).findIdx? (·.1) = none) (hw : swappedStores [.Tuple ts kt pt] (.Tuple es k2 pt2) X.env = pure none)
    (h1 : (assignEach [.Tuple ts kt pt] X.env).map (·.2) = [assign (.Tuple ts kt pt) X.env]) :
    PS X (.Assign [.Tuple ts kt pt] (.Tuple es k2 pt2) pos) (tS F Wx (cStore tps fa)) := by
  refine PS.imp (ps_asg (pe_tup ha) (pg_tup hc hg hn hst) (by rfl) hw h1) fun D σ H ⟨r, Z, ρ, W, s, h⟩ => ?_
  refine tA_mono (tS_bindL s h) fun vs H1 ⟨Z1, l, W1, p, q, fo, h⟩ => ?_
  cases e : shs l with
  | none => rw [e] at h; exact h.elim
  | some ds =>
    rw [e] at h
    have rl := q.shs e
    dsimp only at h
    split at h
    case isFalse => exact h.elim
    rename_i hl
    cases e2 : storeAll tps ds ρ W1 with
    | none => rw [e2] at h; exact h.elim
    | some pr =>
      obtain ⟨ρ', W'⟩ := pr
      rw [e2] at h
      have len : ∀ {tps : List Tp} {ds : List Wk.D} {ρ ρ' : Env'} {W W' : Ro}, storeAll tps ds ρ W = some (ρ', W') → ds.length = tps.length := by
        intro tps
        induction tps with
        | nil => intro ds ρ ρ' W W' e; cases ds <;> first | rfl | cases e
        | cons t ts ih =>
          intro ds ρ ρ' W W' e
          cases ds with
          | nil => cases t <;> cases e
          | cons d ds =>
            cases t with
            | nm i => unfold storeAll at e; simp [ih e]
            | si i f =>
              unfold storeAll at e
              split at e
              case isFalse => cases e
              split at e
              · split at e
                · simp [ih e]
                · cases e
              · cases e
      refine ⟨line_le (by rw [← rl.length]; exact hl), fun a na => ?_⟩
      have pl := laid (o := .tup vs) p.sim na
      refine ⟨a, vs, rfl, .inl (.inl upd_same), by rw [← rl.length]; exact len e2, r, Z1, ρ, W1, ds, ρ', W', pl.sim, rl.later pl p.sim, e2, fun r' σ' H' Z' s' sp' => h r' σ' H' Z' s' ((pl.sp p.sim).trans sp')⟩

/-! ### x += e (whole numbers) -/
def augI (op : Operator) (a b : Int) : Option Int := match op with | .Add => some (a + b) | .Sub => some (a - b) | _ => none
def cAug (i : Nat) (op : Operator) (f : Sm) : SmS := fun ρ W => match ρ[i]? with
  | some (.sh (.int a)) => sBind f (fun d _ ρ W => match d with | .int b => (augI op a b).map fun c => .nx (ρ.set i (.sh (.int c))) W | _ => none) ρ W
  | _ => none
theorem pS_aug {i : Nat} {x : Str} {e : Expr} {f : Sm} {op : Operator} {ti : TIp} {pos pos' : Pos} (hN : X.N.Nodup) (hi : X.N[i]? = some x) (hx : Loc X.env.scope x) (he : PE X e (tE F Wx f)) (g : Int → Int → Int) (ho : PIp X op (ipI g)) (hg : ∀ a b c, augI op a b = some c → c = g a b) (hf : X.fn x = true ∨ X.env.scope.names.lookup x = some .local) :
    PS X (.AugAssign (.Name x pos') op e pos) (tS F Wx (cAug i op f)) := by
  refine PS.imp (ps_aug hN hi hx he ho hf) fun D σ H ⟨r, Z, ρ, W, s, h⟩ => ?_
  unfold cAug at h
  split at h
  · rename_i a ea
    obtain ⟨v0, e0, q0⟩ := s.sh i _ ea
    have : v0 = .int a := by simpa [Rep] using q0
    subst this
    refine ⟨_, e0, ?_⟩
    refine tE_mono (tS_bind s h) fun v H1 ⟨Z1, d, kd, W1, p, q, _, h⟩ => ?_
    cases d with
    | int b =>
      have hb := RepK.int q
      dsimp only at h
      cases ec : augI op a b with
      | none => rw [ec] at h; exact h.elim
      | some c =>
        rw [ec] at h
        have hc := hg a b c ec
        subst hc
        exact ⟨a, b, rfl, hb, h r _ H1 Z1 (p.sim.setSh (by simp [Rep])) SPost.refl⟩
    | _ => exact h.elim
  · exact h.elim

/-! ### raise, try -/
def cRaise (c : Str) : SmS := fun ρ W => some (.exc c ρ W)
theorem pS_raise {c : Str} {C : Addr} {e : Expr} {pos : Pos} (hc : X.calm = true) (tk : Takes X Wx) (he : PMk X e (fun _ H Q => Q (.ref C) none H)) (hm : F.mg c = some (.ref C)) : PS X (.Raise (some e) none pos) (tS F Wx (cRaise c)) :=
  PS.imp (ps_raise hc tk he) fun D σ H ⟨r, Z, ρ, W, s, h⟩ => h r σ H Z C s SPost.refl hm
def cTry (i : Nat) (ct : Str → Option Bool) (f g : SmS) : SmS := fun ρ W => match f ρ W with
  | some (.exc c ρ1 W1) => match ct c with
    | some true => match g (ρ1.set i .no) W1 with
      | some (.nx ρ2 W2) => some (.nx (ρ2.set i .no) W2)
      | some (.bk ρ2 W2) => some (.bk (ρ2.set i .no) W2)
      | some (.ct ρ2 W2) => some (.ct (ρ2.set i .no) W2)
      | some (.rt d k W2) => some (.rt d k W2)
      | _ => none
    | some false => some (.exc c ρ1 W1)
    | none => none
  | o => o
theorem pS_try {x n : Str} {c : Value} {i : Nat} {body suite : List Stmt} {b₀ : Stmt} {np pos pos' : Pos} {fb fs : SmS} {ct : Str → Option Bool} (hs : X.stack = X.env :: X.outer) (hf : X.env.frame = some X.env.locals) (hK : X.K = F.K) (hN : X.N.Nodup) (hi : X.N[i]? = some n) (hln : X.env.kindOf n = some .local) (hc : Names X x c) (tk : Takes X Wx)
    (hct : ∀ c' b C, ct c' = some b → F.mg c' = some (.ref C) → PySem.W.exmOne X.K (.ref C) c = some b)
    (hb : ∀ (W : WX) (pn : List (Addr × Obj)) (xe : Value → Shared → Prop), Takes (X.tr pn xe) W → PassesOwn (model X.prog X.w) X.A X.env xe → PSs (X.tr pn xe) body (tS F W fb))
    (hsu : ∀ (a : Addr) (oe : Obj) (cls : Value) (d : Option Addr) (pn : List (Addr × Obj)), Zc cls d oe → (∃ vs, oe.data = .fields vs) → PSs (X.suite a ((a, oe) :: pn)) (b₀ :: suite) (tS F Wx0 fs)) :
    PS X (.Try body [.ExceptHandler (some (.Name x np)) (some n) (b₀ :: suite) pos'] [] [] pos) (tS F Wx (cTry i ct fb fs)) := by
  refine PS.imp (ps_try_as (tb := fun W => tS F W fb) (ts := fun a cls d => tS F Wx0 fs) hs hf hN hi hln hc tk hb hsu) fun D σ H ⟨r, Z, ρ, W, s, h⟩ => ?_
  refine ⟨r, Z, ρ, W, s, ?_⟩
  unfold cTry at h
  cases e : fb ρ W with
  | none => rw [e] at h; exact h
  | some o =>
    rw [e] at h
    cases o with
    | nx ρ' W' => exact h
    | bk ρ' W' => exact h
    | ct ρ' W' => exact h
    | rt d k W' => exact h
    | exc c' ρ1 W1 =>
      intro r' σ' H' Z' C s' sp' hm
      dsimp only at h
      cases ec : ct c' with
      | none => rw [ec] at h; exact h.elim
      | some b =>
        rw [ec] at h
        refine ⟨b, hct c' b C ec hm, fun hb a na => ?_, fun hb => ?_⟩
        · subst hb
          dsimp only at h
          have s2 : Sim F r' Z' (σ'.set i (some (.ref a))) H' (ρ1.set i .no) W1 := s'.setNo
          refine ⟨r', Z', _, W1, s2, ?_⟩
          have h := EvS.later sp' h
          cases eg : fs (ρ1.set i .no) W1 with
          | none => rw [eg] at h; exact h
          | some o =>
            rw [eg] at h
            cases o with
            | nx ρ2 W2 => exact fun r2 σ2 H2 Z2 s2 sp2 => h r2 _ H2 Z2 s2.setNo sp2
            | bk ρ2 W2 => exact fun r2 σ2 H2 Z2 s2 sp2 => h r2 _ H2 Z2 s2.setNo sp2
            | ct ρ2 W2 => exact fun r2 σ2 H2 Z2 s2 sp2 => h r2 _ H2 Z2 s2.setNo sp2
            | rt d k W2 => exact h
            | exc c2 ρ2 W2 => exact h.elim
        · subst hb
          exact h r' σ' H' Z' C s' sp' hm
/-! ### a call -/
theorem pE_call {k n : Nat} {f : Addr} {fd : FuncData} {ps : List Str} {x : Str} {p pos : Pos} {e : Expr} {es : List Expr} {fn : Fn} {g : SmL} (hK : X.K = F.K) (hmg : X.mg = F.mg) (Fo : FnOk X.prog X.w X.K X.mg X.base (L2.CX X.prog X.w) k f fd ps (spV X.K X.mg n fn)) (hr : Room k X.A) (hg : Gl X x) (hm : X.mg x = some (.ref f)) (hk : PySem.W.keepIn X.K (.ref f) = true)
    (hb : Binds X.K fd ps []) (tk : Takes X Wx) (ha : PA X (e :: es) (tA F Wx g)) (hn : ∀ ρ W l W', g ρ W = some (.vals l W') → l.length = n) (hdb : (x == ("__debug__" : Str)) = false)
    (he : starEach (e :: es) X.env = (false, eval e X.env) :: starEach es X.env) (hpl : (backTo pos (starEach es X.env)).any (·.1) = false) :
    PE X (.Call (.Name x p) (e :: es) [] pos) (tE F Wx (cCall fn g)) := by
  refine PE.imp (pe_callS Fo hr hg hm hk hb (fun σ => passAt tk σ) ha hdb he hpl) fun σ H Q h => ?_
  have := tE_call hn h
  rw [hK, hmg]
  exact this
end
end Wk

set_option Elab.async false
set_option linter.all false
set_option maxRecDepth 100000
set_option maxHeartbeats 1000000
/-! # Primitives by values -/
namespace Wk
open PySem PySem.Spec L2

section
variable {F : Fx} {X : Cx} {r : Option Addr} {Z : Addr → Prop} {σ : St} {H : Hp} {ρ : Env'} {W : Ro}
/-! ### what a value is to be read as -/
theorem RepK.rep {d : D} {v : V} : ∀ {k : Kd}, RepK F r Z σ H ρ k d v → Rep F.K r Z H d v ∨ ∃ a, v = .ref a ∧ Body F.K r Z H d a
  | .sh, h => .inl h
  | .bo, ⟨a, e, o⟩ => .inr ⟨a, e, o.body⟩
  | .fr, ⟨a, e, o, _⟩ => .inr ⟨a, e, o.body⟩
theorem RepK.bl {b : Bool} {v : V} {k : Kd} (h : RepK F r Z σ H ρ k (.bl b) v) : v = .bl b := by
  rcases h.rep with h | ⟨a, _, h⟩
  · simpa [Rep] using h
  · exact h.elim
theorem RepK.str {b : Str} {v : V} {k : Kd} (h : RepK F r Z σ H ρ k (.str b) v) : v = .str b := by
  rcases h.rep with h | ⟨a, _, h⟩
  · simpa [Rep] using h
  · exact h.elim
theorem RepK.non {v : V} {k : Kd} (h : RepK F r Z σ H ρ k .non v) : v = .non := by
  rcases h.rep with h | ⟨a, _, h⟩
  · simpa [Rep] using h
  · exact h.elim
theorem RepK.ty {n : String} {v : V} {k : Kd} (h : RepK F r Z σ H ρ k (.ty n) v) : v = .ty n := by
  rcases h.rep with h | ⟨a, _, h⟩
  · simpa [Rep] using h
  · exact h.elim
theorem RepK.tup {l : List D} {v : V} {k : Kd} (h : RepK F r Z σ H ρ k (.tup l) v) : ∃ a vs, v = .ref a ∧ SqT F.K H a vs ∧ RepL F.K r Z H l vs := by
  rcases h.rep with h | ⟨a, _, h⟩
  · simpa only [Rep] using h
  · exact h.elim
theorem RepK.scr {l : List Int} {v : V} {k : Kd} (h : RepK F r Z σ H ρ k (.scr l) v) : ∃ a, v = .ref a ∧ SqL F.K H a (l.map V.int) := by
  rcases h.rep with h | ⟨a, _, h⟩
  · simp only [Rep] at h
    obtain ⟨a, e, h | h⟩ := h
    · exact ⟨a, e, .inl h.2⟩
    · exact ⟨a, e, h H⟩
  · exact h.elim
theorem RepK.rowR {v : V} {k : Kd} (s : Sim F r Z σ H ρ W) (h : RepK F r Z σ H ρ k .row v) : ∃ a w vs, v = .ref a ∧ W = some w ∧ H a = some (.lst vs) ∧ RepL F.K r Z H w vs := by
  rcases h.rep with h | ⟨a, _, h⟩
  · simp only [Rep] at h
    obtain ⟨a, e, rfl⟩ := h
    have q := s.core.row
    cases W with
    | none => rw [q] at e; cases e
    | some w =>
      obtain ⟨b, vs, e2, hb, rl⟩ := q
      rw [e] at e2; cases e2
      exact ⟨a, w, vs, rfl, rfl, hb, rl⟩
  · exact h.elim
/-- a plain value handed back -/
theorem same (s : Sim F r Z σ H ρ W) {z : D} {v : V} {Q : VK} (h : ∀ v H' Z', EPost F r Z Z' σ H H' ρ W → RepK F r Z' σ H' ρ .sh z v → (Kd.sh = .fr → ∀ a, v = .ref a → H a = none) → Q v H') (q : Rep F.K r Z H z v) : Q v H :=
  h v H Z (EPost.refl s) q fun z => nomatch z
/-- a new tuple -/
theorem newTup (s : Sim F r Z σ H ρ W) {l : List D} {vs : List V} {Q : VK} (h : ∀ v H' Z', EPost F r Z Z' σ H H' ρ W → RepK F r Z' σ H' ρ .sh (.tup l) v → (Kd.sh = .fr → ∀ a, v = .ref a → H a = none) → Q v H') (q : RepL F.K r Z H l vs) {p : Addr} (n : H p = none) : Q (.ref p) (upd H p (.tup vs)) := by
  have pl := laid (o := .tup vs) s n
  exact h _ _ Z pl (by simp only [RepK, Rep]; exact ⟨p, vs, rfl, .inl (.inl upd_same), q.later pl s⟩) fun z => nomatch z
/-- a new list -/
theorem newLst (s : Sim F r Z σ H ρ W) {l : List D} {vs : List V} {Q : VK} (h : ∀ v H' Z', EPost F r Z Z' σ H H' ρ W → RepK F r Z' σ H' ρ .fr (.lst l) v → (Kd.fr = .fr → ∀ a, v = .ref a → H a = none) → Q v H') (q : RepL F.K r Z H l vs) {p : Addr} (n : H p = none) : Q (.ref p) (upd H p (.lst vs)) := by
  have pl := laid (o := .lst vs) s n
  obtain ⟨o, ho⟩ := laid_own s n q
  exact h _ _ Z pl ⟨p, rfl, o, ho⟩ fun _ a e => by cases e; exact n
end

/-! ### whole numbers -/
def i2 (g : Int → Int → Option Int) : Ro → D → D → Option (D × Kd) := fun _ x y => match x, y with | .int a, .int b => (g a b).map fun c => (.int c, .sh) | _, _ => none
def b2 (g : Int → Int → Bool) : Ro → D → D → Option (D × Kd) := fun _ x y => match x, y with | .int a, .int b => some (.bl (g a b), .sh) | _, _ => none
section
variable {F : Fx} {X : Cx}
theorem prim_i2 {g : Int → Int → Option Int} {C : Int → Int → Prop} {h : Int → Int → Int} (hg : ∀ a b c, g a b = some c → C a b ∧ c = h a b) : Prim2 F (rI C fun a b => .int (h a b)) (i2 g) := by
  intro r Z σ H ρ W x y kx ky vx vy z kz Q s qx qy e k
  unfold i2 at e
  split at e
  · rename_i a b
    obtain ⟨c, ec, e⟩ := Option.map_eq_some_iff.mp e
    cases e
    obtain ⟨h1, rfl⟩ := hg a b c ec
    exact ⟨a, b, qx.int, qy.int, h1, same s k (by simp [Rep])⟩
  · cases e
theorem prim_i20 {g : Int → Int → Option Int} {h : Int → Int → Int} (hg : ∀ a b c, g a b = some c → c = h a b) : Prim2 F (rI0 fun a b => .int (h a b)) (i2 g) := by
  intro r Z σ H ρ W x y kx ky vx vy z kz Q s qx qy e k
  unfold i2 at e
  split at e
  · rename_i a b
    obtain ⟨c, ec, e⟩ := Option.map_eq_some_iff.mp e
    cases e
    have := hg a b c ec
    subst this
    exact ⟨a, b, qx.int, qy.int, same s k (by simp [Rep])⟩
  · cases e
theorem prim_b2 {g : Int → Int → Bool} : Prim2 F (rI0 fun a b => .bl (g a b)) (b2 g) := by
  intro r Z σ H ρ W x y kx ky vx vy z kz Q s qx qy e k
  unfold b2 at e
  split at e
  · rename_i a b
    cases e
    exact ⟨a, b, qx.int, qy.int, same s k (by simp [Rep])⟩
  · cases e
/-! ### + -/
def pAdd : Ro → D → D → Option (D × Kd) := fun _ x y =>
  match x, y with
  | .int a, .int b => some (.int (a + b), .sh)
  | .lst a, .lst b => if a.length + b.length ≤ lim then some (.lst (a ++ b), .fr) else none
  | .tup a, .tup b => if a.length + b.length ≤ lim then some (.tup (a ++ b), .sh) else none
  | .str a, .str b => if a.length + b.length ≤ lim then some (.str (a ++ b), .sh) else none
  | _, _ => none
def rAddAll (K : PySem.W.Frag) : R2 := fun x y H Q => (∃ i j, x = .int i ∧ y = .int j ∧ Q (.int (i + j)) H) ∨ rCat x y H Q ∨ rCatA K x y H Q ∨ (∃ i j, x = .str i ∧ y = .str j ∧ i.length + j.length ≤ sizeLine ∧ Q (.str (i ++ j)) H)
theorem op_addAll : OpR X (binaryOp .Add) (rAddAll X.K) := op_add.or (op_cat.or (op_catA.or op_add_str))
theorem prim_add : Prim2 F (rAddAll F.K) pAdd := by
  intro r Z σ H ρ W x y kx ky vx vy z kz Q s qx qy e k
  unfold pAdd at e
  split at e
  · rename_i a b
    cases e
    exact .inl ⟨a, b, qx.int, qy.int, same s k (by simp [Rep])⟩
  · rename_i a b
    split at e
    · rename_i hl
      cases e
      obtain ⟨p, vs, rfl, h1, r1⟩ := qx.list
      obtain ⟨p2, us, rfl, h2, r2⟩ := qy.list
      exact .inr (.inl ⟨p, p2, vs, us, rfl, rfl, h1, h2, line_le (by rw [← r1.length, ← r2.length]; exact hl), fun q nq => newLst s k (r1.append r2) nq⟩)
    · cases e
  · rename_i a b
    split at e
    · rename_i hl
      cases e
      obtain ⟨p, vs, rfl, h1, r1⟩ := qx.tup
      obtain ⟨p2, us, rfl, h2, r2⟩ := qy.tup
      have l1 := r1.length
      have l2 := r2.length
      refine .inr (.inr (.inl ⟨p, p2, vs, us, rfl, rfl, h1, h2, line_le (by omega), fun e1 => ?_, fun _ e2 => ?_, fun _ _ q nq => newTup s k (r1.append r2) nq⟩))
      · subst e1
        have : a = [] := List.length_eq_zero_iff.mp (by simpa using l1)
        subst this
        exact same s k (by simp only [Rep]; exact ⟨p2, us, rfl, h2, r2⟩)
      · subst e2
        have : b = [] := List.length_eq_zero_iff.mp (by simpa using l2)
        subst this
        rw [List.append_nil] at k
        exact same s k (by simp only [Rep]; exact ⟨p, vs, rfl, h1, r1⟩)
    · cases e
  · rename_i a b
    split at e
    · rename_i hl
      cases e
      exact .inr (.inr (.inr ⟨a, b, qx.str, qy.str, line_le hl, same s k (by simp [Rep])⟩))
    · cases e
  · cases e
/-! ### * -/
def mulOk (a b : Int) : Bool := decide (a.natAbs.log2 + b.natAbs.log2 < 1000000)
def pMul : Ro → D → D → Option (D × Kd) := fun _ x y =>
  match x, y with
  | .int a, .int b => if mulOk a b then some (.int (a * b), .sh) else none
  | .lst a, .int b => if -(2 ^ 63) ≤ b ∧ b < 2 ^ 63 ∧ a.length * b.toNat ≤ lim then some (.lst (List.replicate b.toNat a).flatten, .fr) else none
  | _, _ => none
def rMulAll : R2 := fun x y H Q => rI CMulW (fun i j => .int (i * j)) x y H Q ∨ rRep x y H Q
theorem op_mulAll : OpR X (binaryOp .Mult) rMulAll := op_mulW.or op_rep
theorem prim_mul : Prim2 F rMulAll pMul := by
  intro r Z σ H ρ W x y kx ky vx vy z kz Q s qx qy e k
  unfold pMul at e
  split at e
  · rename_i a b
    split at e
    · rename_i hl
      cases e
      exact .inl ⟨a, b, qx.int, qy.int, (show a.natAbs.log2 + b.natAbs.log2 < 1000000 by simpa [mulOk] using hl), same s k (by simp [Rep])⟩
    · cases e
  · rename_i a b
    split at e
    · rename_i hl
      cases e
      obtain ⟨p, vs, rfl, h1, r1⟩ := qx.list
      have l1 := r1.length
      refine .inr ⟨p, b, vs, rfl, qy.int, h1, hl.1, hl.2.1, line_le (by rw [← l1]; exact hl.2.2), fun q nq => ?_⟩
      have rep : ∀ n : Nat, RepL F.K r Z H (List.replicate n a).flatten (List.replicate n vs).flatten := by
        intro n
        induction n with
        | zero => exact RepL.nil
        | succ n ih => rw [List.replicate_succ, List.replicate_succ, List.flatten_cons, List.flatten_cons]; exact r1.append ih
      exact newLst s k (rep _) nq
    · cases e
  · cases e
/-! ### //, % -/
def CDivG (_ j : Int) : Prop := j ≠ 0 ∧ j.natAbs.log2 < 9000
theorem op_fdivG : OpR X (binaryOp .FloorDiv) (rI CDivG fun i j => .int (i.fdiv j)) := opI fun _ _ _ _ _ _ _ hc q => PyProof.Rows.floordiv_int hc.1 q (.inl (PyProof.noPylong_of_log2 hc.2))
def gDiv (a b : Int) : Option Int := if b ≠ 0 ∧ b.natAbs.log2 < 9000 then some (a.fdiv b) else none
def gMod (a b : Int) : Option Int := if b ≠ 0 then some (a.fmod b) else none
def gPow (a b : Int) : Option Int := if 0 ≤ b ∧ b ≤ 1000000 ∧ a.natAbs < 2 ^ 64 then some (a ^ b.toNat) else none
theorem prim_div : Prim2 F (rI CDivG fun i j => .int (i.fdiv j)) (i2 gDiv) := prim_i2 fun a b c e => by
  unfold gDiv at e
  split at e
  · rename_i h; cases e; exact ⟨h, rfl⟩
  · cases e
theorem prim_mod : Prim2 F (rI (fun _ j => j ≠ 0) fun i j => .int (i.fmod j)) (i2 gMod) := prim_i2 fun a b c e => by
  unfold gMod at e
  split at e
  · rename_i h; cases e; exact ⟨h, rfl⟩
  · cases e
theorem prim_pow : Prim2 F (rI CPow fun i j => .int (i ^ j.toNat)) (i2 gPow) := prim_i2 fun a b c e => by
  unfold gPow at e
  split at e
  · rename_i h; cases e; exact ⟨h, rfl⟩
  · cases e
theorem prim_sub : Prim2 F (rI0 fun i j => .int (i - j)) (i2 fun a b => some (a - b)) := prim_i20 fun a b c e => by cases e; rfl
def pNeg : D → Option (D × Kd) := fun x => match x with | .int a => some (.int (-a), .sh) | _ => none
theorem prim_neg : Prim1 F (rU fun i => .int (-i)) pNeg := by
  intro r Z σ H ρ W x kx vx z kz Q s qx e k
  unfold pNeg at e
  split at e
  · rename_i a
    cases e
    exact ⟨a, qx.int, same s k (by simp [Rep])⟩
  · cases e
end

/-! ### == of data -/
mutual
def toPy : D → Option PyData
  | .non => some .none
  | .bl b => some (.bool b)
  | .int i => some (.int i)
  | .str x => some (.str x)
  | .tup l => (toPyL l).map PyData.tuple
  | .lst l => (toPyL l).map PyData.list
  | _ => none
def toPyL : List D → Option (List PyData)
  | [] => some []
  | d :: ds => match toPy d, toPyL ds with
    | some x, some xs => some (x :: xs)
    | _, _ => none
end
section
variable {F : Fx} {r : Option Addr} {Z : Addr → Prop} {H : Hp}
mutual
theorem dp_of : ∀ {d : D} {v : V} {p : PyData}, Rep F.K r Z H d v → toPy d = some p → Dp F.K H v p
  | .non, v, p, h, e => by simp only [Rep] at h; simp only [toPy, Option.some.injEq] at e; subst h e; exact .non
  | .bl b, v, p, h, e => by simp only [Rep] at h; simp only [toPy, Option.some.injEq] at e; subst h e; exact .bl b
  | .int b, v, p, h, e => by simp only [Rep] at h; simp only [toPy, Option.some.injEq] at e; subst h e; exact .int b
  | .str b, v, p, h, e => by simp only [Rep] at h; simp only [toPy, Option.some.injEq] at e; subst h e; exact .str b
  | .tup l, v, p, h, e => by
    simp only [Rep] at h
    simp only [toPy] at e
    obtain ⟨ps, el, rfl⟩ := Option.map_eq_some_iff.mp e
    obtain ⟨a, vs, rfl, ht, rl⟩ := h
    exact .tup ht (dp_ofL rl el)
  | .lst l, v, p, h, e => by
    simp only [Rep] at h
    simp only [toPy] at e
    obtain ⟨ps, el, rfl⟩ := Option.map_eq_some_iff.mp e
    obtain ⟨a, vs, rfl, _, ht, rl⟩ := h
    exact .lst (.inl (.inl ht)) (dp_ofL rl el)
  | .dct _ _, _, _, _, e => by simp [toPy] at e
  | .row, _, _, _, e => by simp [toPy] at e
  | .scr _, _, _, _, e => by simp [toPy] at e
  | .ty _, _, _, _, e => by simp [toPy] at e
theorem dp_ofL : ∀ {ds : List D} {vs : List V} {ps : List PyData}, RepL F.K r Z H ds vs → toPyL ds = some ps → DpAll F.K H vs ps
  | [], vs, ps, h, e => by simp only [RepL] at h; simp only [toPyL, Option.some.injEq] at e; subst h e; exact .nil
  | d :: ds, vs, ps, h, e => by
    simp only [RepL] at h
    obtain ⟨v, t, rfl, q, l⟩ := h
    simp only [toPyL] at e
    cases e1 : toPy d with
    | none => rw [e1] at e; cases e
    | some x =>
      cases e2 : toPyL ds with
      | none => rw [e1, e2] at e; cases e
      | some xs =>
        rw [e1, e2] at e
        cases e
        exact .cons (dp_of q e1) (dp_ofL l e2)
end
theorem dp_ofK {σ : St} {ρ : Env'} {k : Kd} {d : D} {v : V} {p : PyData} (h : RepK F r Z σ H ρ k d v) (e : toPy d = some p) : Dp F.K H v p := by
  rcases h.rep with g | ⟨a, ea, g⟩
  · exact dp_of g e
  · subst ea
    cases d with
    | lst l =>
      obtain ⟨vs, ev, rl⟩ := g
      simp only [toPy] at e
      obtain ⟨ps, el, rfl⟩ := Option.map_eq_some_iff.mp e
      exact .lst (.inl (.inl ev)) (dp_ofL rl el)
    | dct ks l => simp [toPy] at e
    | _ => exact g.elim
end
def eqD (neg : Bool) (x y : D) : Option Bool :=
  match toPy x, toPy y with
  | some a, some b => if SeqAt.shaped a && SeqAt.shaped b then some (if neg then !(PyData.eqv a b) else PyData.eqv a b) else none
  | _, _ => none
def pEq (neg : Bool) : Ro → D → D → Option (D × Kd) := fun _ x y => (eqD neg x y).map fun b => (.bl b, .sh)
section
variable {F : Fx} {X : Cx}
theorem prim_eq : Prim2 F (rEqD F.K) (pEq false) := by
  intro r Z σ H ρ W x y kx ky vx vy z kz Q s qx qy e k
  obtain ⟨b, eb, e⟩ := Option.map_eq_some_iff.mp e
  cases e
  unfold eqD at eb
  split at eb
  · rename_i a c ea ec
    split at eb
    · rename_i hs
      simp only [Bool.and_eq_true] at hs
      simp only [Option.some.injEq] at eb
      subst eb
      exact ⟨a, c, dp_ofK qx ea, dp_ofK qy ec, hs.1, hs.2, same s k (by simp [Rep])⟩
    · cases eb
  · cases eb
theorem prim_ne : Prim2 F (rNeD F.K) (pEq true) := by
  intro r Z σ H ρ W x y kx ky vx vy z kz Q s qx qy e k
  obtain ⟨b, eb, e⟩ := Option.map_eq_some_iff.mp e
  cases e
  unfold eqD at eb
  split at eb
  · rename_i a c ea ec
    split at eb
    · rename_i hs
      simp only [Bool.and_eq_true] at hs
      simp only [Option.some.injEq] at eb
      subst eb
      exact ⟨a, c, dp_ofK qx ea, dp_ofK qy ec, hs.1, hs.2, same s k (by simp [Rep])⟩
    · cases eb
  · cases eb
/-! ### x is None -/
def isNon : D → Option Bool
  | .non => some true
  | .row => none
  | _ => some false
theorem isNon_ok {r : Option Addr} {Z : Addr → Prop} {σ : St} {H : Hp} {ρ : Env'} {k : Kd} {d : D} {v : V} {b : Bool} (h : RepK F r Z σ H ρ k d v) (e : isNon d = some b) : decide (v = .non) = b := by
  rcases h.rep with g | ⟨a, ea, g⟩
  · cases d with
    | non => simp only [Rep] at g; cases e; subst g; rfl
    | bl x => simp only [Rep] at g; cases e; subst g; rfl
    | int x => simp only [Rep] at g; cases e; subst g; rfl
    | str x => simp only [Rep] at g; cases e; subst g; rfl
    | ty x => simp only [Rep] at g; cases e; subst g; rfl
    | tup l => simp only [Rep] at g; obtain ⟨a, vs, rfl, _⟩ := g; cases e; rfl
    | lst l => simp only [Rep] at g; obtain ⟨a, vs, rfl, _⟩ := g; cases e; rfl
    | dct ks l => simp only [Rep] at g; obtain ⟨a, vs, rfl, _⟩ := g; cases e; rfl
    | scr l => simp only [Rep] at g; obtain ⟨a, rfl, _⟩ := g; cases e; rfl
    | row => cases e
  · subst ea
    cases d with
    | lst l => cases e; rfl
    | dct ks l => cases e; rfl
    | _ => exact g.elim
def pIsN (neg : Bool) : Ro → D → D → Option (D × Kd) := fun _ x y => match y with | .non => (isNon x).map fun b => (.bl (if neg then !b else b), .sh) | _ => none
theorem prim_isN : Prim2 F (fun x y H Q => y = .non ∧ Q (.bl (decide (x = .non))) H) (pIsN false) := by
  intro r Z σ H ρ W x y kx ky vx vy z kz Q s qx qy e k
  unfold pIsN at e
  split at e
  · obtain ⟨b, eb, e⟩ := Option.map_eq_some_iff.mp e
    cases e
    exact ⟨qy.non, same s k (by rw [isNon_ok qx eb]; simp [Rep])⟩
  · cases e
theorem prim_notN : Prim2 F (fun x y H Q => y = .non ∧ Q (.bl (!decide (x = .non))) H) (pIsN true) := by
  intro r Z σ H ρ W x y kx ky vx vy z kz Q s qx qy e k
  unfold pIsN at e
  split at e
  · obtain ⟨b, eb, e⟩ := Option.map_eq_some_iff.mp e
    cases e
    exact ⟨qy.non, same s k (by rw [isNon_ok qx eb]; simp [Rep])⟩
  · cases e
/-! ### in -/
def inD (neg : Bool) (x y : D) : Option Bool :=
  match toPy x, y with
  | some a, .lst l => (toPyL l).bind fun ds => if SeqAt.shaped a && SeqAt.shaped (.list ds) then some (if neg then !(ds.any fun z => PyData.eqv z a) else ds.any fun z => PyData.eqv z a) else none
  | _, _ => none
def pIn (neg : Bool) : Ro → D → D → Option (D × Kd) := fun _ x y => (inD neg x y).map fun b => (.bl b, .sh)
theorem inD_ok {neg b : Bool} {r : Option Addr} {Z : Addr → Prop} {σ : St} {H : Hp} {ρ : Env'} {kx ky : Kd} {x y : D} {vx vy : V} (qx : RepK F r Z σ H ρ kx x vx) (qy : RepK F r Z σ H ρ ky y vy) (e : inD neg x y = some b) :
    ∃ d ds, Dp F.K H vx d ∧ Dp F.K H vy (.list ds) ∧ SeqAt.shaped d = true ∧ SeqAt.shaped (.list ds) = true ∧ b = (if neg then !(ds.any fun z => PyData.eqv z d) else ds.any fun z => PyData.eqv z d) := by
  unfold inD at e
  split at e
  · rename_i a l ea
    obtain ⟨ds, el, e⟩ := Option.bind_eq_some_iff.mp e
    split at e
    · rename_i hs
      simp only [Bool.and_eq_true] at hs
      cases e
      exact ⟨a, ds, dp_ofK qx ea, dp_ofK (p := .list ds) qy (by simp only [toPy, el]; rfl), hs.1, hs.2, rfl⟩
    · cases e
  · cases e
theorem prim_in : Prim2 F (rInD F.K) (pIn false) := by
  intro r Z σ H ρ W x y kx ky vx vy z kz Q s qx qy e k
  obtain ⟨b, eb, e⟩ := Option.map_eq_some_iff.mp e
  cases e
  obtain ⟨d, ds, h1, h2, h3, h4, rfl⟩ := inD_ok qx qy eb
  exact ⟨d, ds, h1, h2, h3, h4, same s k (by simp [Rep])⟩
theorem prim_notIn : Prim2 F (rNotInD F.K) (pIn true) := by
  intro r Z σ H ρ W x y kx ky vx vy z kz Q s qx qy e k
  obtain ⟨b, eb, e⟩ := Option.map_eq_some_iff.mp e
  cases e
  obtain ⟨d, ds, h1, h2, h3, h4, rfl⟩ := inD_ok qx qy eb
  exact ⟨d, ds, h1, h2, h3, h4, same s k (by simp [Rep])⟩
/-! ### x[i] -/
def pIdx : Ro → D → D → Option (D × Kd) := fun W x y =>
  match x, y with
  | .lst l, .int i => (atI l i).map fun d => (d, .sh)
  | .tup l, .int i => (atI l i).map fun d => (d, .sh)
  | .scr l, .int i => (atI l i).map fun d => (.int d, .sh)
  | .row, .int i => W.bind fun l => (atI l i).map fun d => (d, .sh)
  | _, _ => none
theorem atI_rep {r : Option Addr} {Z : Addr → Prop} {H : Hp} {l : List D} {vs : List V} {i : Int} {d : D} (rl : RepL F.K r Z H l vs) (e : atI l i = some d) : ∃ v, atI vs i = some v ∧ Rep F.K r Z H d v := by
  unfold atI at e ⊢
  obtain ⟨j, ej, e⟩ := Option.bind_eq_some_iff.mp e
  rw [← rl.length, ej]
  exact rl.get e
theorem prim_idx : Prim2 F (rIx F.K) pIdx := by
  intro r Z σ H ρ W x y kx ky vx vy z kz Q s qx qy e k
  unfold pIdx at e
  split at e
  · rename_i l i
    obtain ⟨d, ed, e⟩ := Option.map_eq_some_iff.mp e
    cases e
    obtain ⟨a, vs, rfl, h, rl⟩ := qx.list
    obtain ⟨v, ev, q⟩ := atI_rep rl ed
    exact .inl ⟨a, vs, i, v, rfl, qy.int, .inl (.inl h), ev, same s k q⟩
  · rename_i l i
    obtain ⟨d, ed, e⟩ := Option.map_eq_some_iff.mp e
    cases e
    obtain ⟨a, vs, rfl, h, rl⟩ := qx.tup
    obtain ⟨v, ev, q⟩ := atI_rep rl ed
    exact .inr (.inl ⟨a, vs, i, v, rfl, qy.int, h, ev, same s k q⟩)
  · rename_i l i
    obtain ⟨d, ed, e⟩ := Option.map_eq_some_iff.mp e
    cases e
    obtain ⟨a, rfl, h⟩ := qx.scr
    refine .inl ⟨a, _, i, .int d, rfl, qy.int, h, ?_, same s k (by simp [Rep])⟩
    unfold atI at ed ⊢
    obtain ⟨j, ej, ed⟩ := Option.bind_eq_some_iff.mp ed
    rw [List.length_map, ej]
    simp [ed]
  · rename_i i
    obtain ⟨w, ew, e⟩ := Option.bind_eq_some_iff.mp e
    obtain ⟨d, ed, e⟩ := Option.map_eq_some_iff.mp e
    cases e
    obtain ⟨a, w', vs, rfl, ew', h, rl⟩ := qx.rowR s
    rw [ew] at ew'; cases ew'
    obtain ⟨v, ev, q⟩ := atI_rep rl ed
    exact .inl ⟨a, vs, i, v, rfl, qy.int, .inl (.inl h), ev, same s k q⟩
  · cases e
theorem pE_idx {e1 e2 : Expr} {f1 f2 : Sm} {Wx : WX} {pos : Pos} (hK : X.K = F.K) (h1 : PE X e1 (tE F Wx f1)) (h2 : PE X e2 (tE F Wx f2)) (hs : PlainIx e2) : PE X (.Subscript e1 e2 pos) (tE F Wx (c2 pIdx f1 f2)) :=
  PE.imp (pe_ix ix_seq h1 h2 hs) fun _ _ _ h => by rw [hK]; exact tE_c2 prim_idx h
end
end Wk

set_option Elab.async false
set_option linter.all false
set_option maxRecDepth 100000
set_option maxHeartbeats 1000000
/-! # Built-in calls, slices, stars -/
namespace Wk
open PySem PySem.Spec L2
section
variable {F : Fx} {X : Cx} {Wx : WX}
theorem CallR.or {f : Value} {r r' : List V → Hp → VK → Prop} (h : CallR X f r) (h' : CallR X f r') : CallR X f (fun vs H Q => r vs H Q ∨ r' vs H Q) := by
  intro pins s σ H vs us Q I rv q
  rcases q with q | q
  · exact h pins s σ H vs us Q I rv q
  · exact h' pins s σ H vs us Q I rv q
theorem pE_B {rr : List V → Hp → VK → Prop} {p : List D → Option (D × Kd)} {g : SmL} {x : Str} {id : String} {e : Expr} {es : List Expr} {pp pos : Pos} (hc : CallR X (.builtin id) rr) (hp : PrimL F rr p) (hg : Gl X x) (hm : X.mg x = none) (hv : bootBuiltins x = some (.builtin id)) (ha : PA X (e :: es) (tA F Wx g)) (hn : x ≠ "__name__") (hdb : (x == ("__debug__" : Str)) = false)
    (he : starEach (e :: es) X.env = (false, eval e X.env) :: starEach es X.env) (hpl : (backTo pos (starEach es X.env)).any (·.1) = false) : PE X (.Call (.Name x pp) (e :: es) [] pos) (tE F Wx (cL p g)) :=
  PE.imp (pe_callB hc hg hm hv ha hn hdb he hpl) fun _ _ _ h => tE_cL hp h
theorem pE_Ty {rr : List V → Hp → VK → Prop} {p : List D → Option (D × Kd)} {g : SmL} {x : Str} {id : String} {e : Expr} {es : List Expr} {pp pos : Pos} (hc : CallR X (.type id) rr) (hp : PrimL F rr p) (hg : Gl X x) (hm : X.mg x = none) (hv : bootBuiltins x = some (.type id)) (ha : PA X (e :: es) (tA F Wx g)) (hn : x ≠ "__name__") (hdb : (x == ("__debug__" : Str)) = false)
    (he : starEach (e :: es) X.env = (false, eval e X.env) :: starEach es X.env) (hpl : (backTo pos (starEach es X.env)).any (·.1) = false) : PE X (.Call (.Name x pp) (e :: es) [] pos) (tE F Wx (cL p g)) :=
  PE.imp (pe_callTy hc hg hm hv ha hn hdb he hpl) fun _ _ _ h => tE_cL hp h
theorem pE_Bfun {rr : List V → Hp → VK → Prop} {p : List D → Option (D × Kd)} {g : SmL} {x : Str} {id : String} {e : Expr} {es : List Expr} {pp pos : Pos} (hc : CallR X (.builtin id) rr) (hp : PrimL F rr p) (hg : Gl X x) (hm : X.mg x = some (.builtin id)) (ha : PA X (e :: es) (tA F Wx g)) (hdb : (x == ("__debug__" : Str)) = false)
    (he : starEach (e :: es) X.env = (false, eval e X.env) :: starEach es X.env) (hpl : (backTo pos (starEach es X.env)).any (·.1) = false) : PE X (.Call (.Name x pp) (e :: es) [] pos) (tE F Wx (cL p g)) :=
  PE.imp (pe_callBfun hc hg hm ha hdb he hpl) fun _ _ _ h => tE_cL hp h

theorem repKs1 {r : Option Addr} {Z : Addr → Prop} {σ : St} {H : Hp} {ρ : Env'} {l : List (D × Kd)} {vs : List V} {d : D} (h : RepKs F r Z σ H ρ l vs) (e : l.map (·.1) = [d]) : ∃ v k, vs = [v] ∧ RepK F r Z σ H ρ k d v := by
  match l, e with
  | [(d, k)], e =>
    cases e
    obtain ⟨v, t, rfl, q, rfl⟩ := h
    exact ⟨v, k, rfl, q⟩
theorem repKs2 {r : Option Addr} {Z : Addr → Prop} {σ : St} {H : Hp} {ρ : Env'} {l : List (D × Kd)} {vs : List V} {d e : D} (h : RepKs F r Z σ H ρ l vs) (ee : l.map (·.1) = [d, e]) : ∃ v u k ku, vs = [v, u] ∧ RepK F r Z σ H ρ k d v ∧ RepK F r Z σ H ρ ku e u := by
  match l, ee with
  | [(d, k), (e, ku)], ee =>
    cases ee
    obtain ⟨v, t, rfl, q, u, t2, rfl, q2, rfl⟩ := h
    exact ⟨v, u, k, ku, rfl, q, q2⟩
/-! ### len -/
def pLen : List D → Option (D × Kd)
  | [.lst l] => some (.int l.length, .sh)
  | [.tup l] => some (.int l.length, .sh)
  | [.scr l] => some (.int l.length, .sh)
  | [.str x] => if x.length ≤ lim then some (.int x.length, .sh) else none
  | _ => none
theorem prim_len : PrimL F (fun xs H Q => ∃ x n, xs = [x] ∧ LenV F.K x H n ∧ Q (.int n) H) pLen := by
  intro r Z σ H ρ W l vs z kz Q s q e k
  unfold pLen at e
  split at e
  · rename_i l' el
    cases e
    obtain ⟨v, kv, rfl, q1⟩ := repKs1 q el
    obtain ⟨a, us, rfl, h, rl⟩ := q1.list
    exact ⟨_, l'.length, rfl, .inl ⟨us, .inl (.inl h), rl.length⟩, same s k (by simp [Rep])⟩
  · rename_i l' el
    cases e
    obtain ⟨v, kv, rfl, q1⟩ := repKs1 q el
    obtain ⟨a, us, rfl, h, rl⟩ := q1.tup
    exact ⟨_, l'.length, rfl, .inr ⟨us, h, rl.length⟩, same s k (by simp [Rep])⟩
  · rename_i l' el
    cases e
    obtain ⟨v, kv, rfl, q1⟩ := repKs1 q el
    obtain ⟨a, rfl, h⟩ := q1.scr
    exact ⟨_, l'.length, rfl, .inl ⟨_, h, by simp⟩, same s k (by simp [Rep])⟩
  · rename_i x el
    split at e
    · rename_i hx
      cases e
      obtain ⟨v, kv, rfl, q1⟩ := repKs1 q el
      have := q1.str
      subst this
      exact ⟨_, x.length, rfl, ⟨line_le hx, rfl⟩, same s k (by simp [Rep])⟩
    · cases e
  · cases e
/-! ### isinstance -/
def tyN : D → Option String
  | .non => some "NoneType"
  | .bl _ => some "bool"
  | .int _ => some "int"
  | .str _ => some "str"
  | .tup _ => some "tuple"
  | .lst _ => some "list"
  | .dct _ _ => some "dict"
  | _ => none
def isiB (a b : String) : Option Bool :=
  if b = "int" then some (a == "int" || a == "bool")
  else if b = "bool" ∨ b = "tuple" ∨ b = "str" ∨ b = "list" ∨ b = "dict" then some (a == b) else none
def pIsi : List D → Option (D × Kd)
  | [x, .ty n] => (tyN x).bind fun t => (isiB t n).map fun b => (.bl b, .sh)
  | _ => none
def kits : Bool := ["NoneType", "bool", "int", "str", "tuple", "list", "dict"].all fun a => ["int", "bool", "tuple", "str", "list", "dict"].all fun b => kitB a b == isiB a b
theorem kits_ok : kits = true := by decide +kernel
theorem kit_isi {a b : String} {r : Bool} (ha : a ∈ ["NoneType", "bool", "int", "str", "tuple", "list", "dict"]) (h : isiB a b = some r) : kitB a b = some r := by
  have hb : b ∈ ["int", "bool", "tuple", "str", "list", "dict"] := by
    unfold isiB at h
    split at h
    · rename_i e; simp [e]
    · split at h
      · rename_i e; rcases e with e | e | e | e | e <;> simp [e]
      · cases h
  have q := List.all_eq_true.mp (List.all_eq_true.mp kits_ok a ha) b hb
  rw [beq_iff_eq] at q
  rw [q, h]
theorem tyN_ok {r : Option Addr} {Z : Addr → Prop} {σ : St} {H : Hp} {ρ : Env'} {k : Kd} {d : D} {v : V} {t : String} (h : RepK F r Z σ H ρ k d v) (e : tyN d = some t) : TyX F.K H v (.type t) ∧ t ∈ ["NoneType", "bool", "int", "str", "tuple", "list", "dict"] := by
  cases d with
  | non => cases e; rw [h.non]; exact ⟨.base .non, by simp⟩
  | bl b => cases e; rw [h.bl]; exact ⟨.base (.bl b), by simp⟩
  | int b => cases e; rw [h.int]; exact ⟨.base (.int b), by simp⟩
  | str b => cases e; rw [h.str]; exact ⟨.base (.str b), by simp⟩
  | tup l =>
    cases e
    obtain ⟨a, vs, rfl, ht, _⟩ := h.tup
    rcases ht with (ht | ⟨o, ht⟩) | ⟨o, its, n, hk, hc, _⟩
    · exact ⟨.base (.tup ht), by simp⟩
    · exact ⟨.fTuple ht, by simp⟩
    · exact ⟨.kTuple hk hc, by simp⟩
  | lst l =>
    cases e
    obtain ⟨a, vs, rfl, ht, _⟩ := h.list
    exact ⟨.base (.lst ht), by simp⟩
  | dct ks l =>
    cases e
    rcases h.rep with g | ⟨a, ea, g⟩
    · simp only [Rep] at g
      obtain ⟨a, vs, rfl, _, ht, _⟩ := g
      exact ⟨.base (.dK ht), by simp⟩
    · subst ea
      obtain ⟨vs, ht, _⟩ := g
      exact ⟨.base (.dK ht), by simp⟩
  | _ => cases e
theorem prim_isi : PrimL F (rIsi F.K) pIsi := by
  intro r Z σ H ρ W l vs z kz Q s q e k
  unfold pIsi at e
  split at e
  · rename_i x n el
    obtain ⟨v, u, kv, ku, rfl, q1, q2⟩ := repKs2 q el
    obtain ⟨t, et, e⟩ := Option.bind_eq_some_iff.mp e
    obtain ⟨b, eb, e⟩ := Option.map_eq_some_iff.mp e
    cases e
    have := q2.ty
    subst this
    obtain ⟨tx, ht⟩ := tyN_ok q1 et
    exact ⟨v, .ty n, .type t, .type n, b, rfl, .ty n, tx, kit_ty (kit_isi ht eb), same s k (by simp [Rep])⟩
  · cases e
/-! ### tuple, list, int, gcd, max, min -/
def pTuple : List D → Option (D × Kd)
  | [.lst l] => some (.tup l, .sh)
  | [.tup l] => some (.tup l, .sh)
  | _ => none
theorem prim_tuple : PrimL F (fun xs H Q => ∃ p ys, xs = [.ref p] ∧ ((SqL F.K H p ys ∧ ∀ l, H l = none → Q (.ref l) (upd H l (.tup ys))) ∨ (SqT F.K H p ys ∧ Q (.ref p) H))) pTuple := by
  intro r Z σ H ρ W l vs z kz Q s q e k
  unfold pTuple at e
  split at e
  · rename_i l' el
    cases e
    obtain ⟨v, kv, rfl, q1⟩ := repKs1 q el
    obtain ⟨a, us, rfl, h, rl⟩ := q1.list
    exact ⟨a, us, rfl, .inl ⟨.inl (.inl h), fun p np => newTup s k rl np⟩⟩
  · rename_i l' el
    cases e
    obtain ⟨v, kv, rfl, q1⟩ := repKs1 q el
    obtain ⟨a, us, rfl, h, rl⟩ := q1.tup
    exact ⟨a, us, rfl, .inr ⟨h, same s k (by simp only [Rep]; exact ⟨a, us, rfl, h, rl⟩)⟩⟩
  · cases e
def pList : List D → Option (D × Kd)
  | [.lst l] => some (.lst l, .fr)
  | [.tup l] => some (.lst l, .fr)
  | _ => none
theorem prim_list : PrimL F (fun xs H Q => ∃ p ys, xs = [.ref p] ∧ (SqL F.K H p ys ∨ SqT F.K H p ys) ∧ ∀ l, H l = none → Q (.ref l) (upd H l (.lst ys))) pList := by
  intro r Z σ H ρ W l vs z kz Q s q e k
  unfold pList at e
  split at e
  · rename_i l' el
    cases e
    obtain ⟨v, kv, rfl, q1⟩ := repKs1 q el
    obtain ⟨a, us, rfl, h, rl⟩ := q1.list
    exact ⟨a, us, rfl, .inl (.inl (.inl h)), fun p np => newLst s k rl np⟩
  · rename_i l' el
    cases e
    obtain ⟨v, kv, rfl, q1⟩ := repKs1 q el
    obtain ⟨a, us, rfl, h, rl⟩ := q1.tup
    exact ⟨a, us, rfl, .inr h, fun p np => newLst s k rl np⟩
  · cases e
def pInt : List D → Option (D × Kd)
  | [.int i] => some (.int i, .sh)
  | [.bl b] => some (.int (if b then 1 else 0), .sh)
  | _ => none
theorem prim_int : PrimL F (fun xs H Q => (∃ i, xs = [.int i] ∧ Q (.int i) H) ∨ ∃ k, xs = [.bl k] ∧ Q (.int (if k then 1 else 0)) H) pInt := by
  intro r Z σ H ρ W l vs z kz Q s q e k
  unfold pInt at e
  split at e
  · rename_i i el
    cases e
    obtain ⟨v, kv, rfl, q1⟩ := repKs1 q el
    exact .inl ⟨i, by rw [q1.int], same s k (by simp [Rep])⟩
  · rename_i b el
    cases e
    obtain ⟨v, kv, rfl, q1⟩ := repKs1 q el
    exact .inr ⟨b, by rw [q1.bl], same s k (by simp [Rep])⟩
  · cases e
def pGcd : List D → Option (D × Kd)
  | [.int a, .int b] => some (.int ((Nat.gcd a.natAbs b.natAbs : Nat) : Int), .sh)
  | _ => none
theorem prim_gcd : PrimL F rGcd pGcd := by
  intro r Z σ H ρ W l vs z kz Q s q e k
  unfold pGcd at e
  split at e
  · rename_i a b el
    cases e
    obtain ⟨v, u, kv, ku, rfl, q1, q2⟩ := repKs2 q el
    exact ⟨a, b, by rw [q1.int, q2.int], same s k (by simp [Rep])⟩
  · cases e
def pMax : List D → Option (D × Kd)
  | [.int i, .int j] => some (.int (if j > i then j else i), .sh)
  | _ => none
theorem prim_max : PrimL F (fun xs H Q => ∃ i j, xs = [.int i, .int j] ∧ Q (.int (if j > i then j else i)) H) pMax := by
  intro r Z σ H ρ W l vs z kz Q s q e k
  unfold pMax at e
  split at e
  · rename_i a b el
    cases e
    obtain ⟨v, u, kv, ku, rfl, q1, q2⟩ := repKs2 q el
    exact ⟨a, b, by rw [q1.int, q2.int], same s k (by simp [Rep])⟩
  · cases e
def pMin : List D → Option (D × Kd)
  | [.int i, .int j] => some (.int (if j < i then j else i), .sh)
  | _ => none
theorem prim_min : PrimL F (fun xs H Q => ∃ i j, xs = [.int i, .int j] ∧ Q (.int (if j < i then j else i)) H) pMin := by
  intro r Z σ H ρ W l vs z kz Q s q e k
  unfold pMin at e
  split at e
  · rename_i a b el
    cases e
    obtain ⟨v, u, kv, ku, rfl, q1, q2⟩ := repKs2 q el
    exact ⟨a, b, by rw [q1.int, q2.int], same s k (by simp [Rep])⟩
  · cases e
/-! ### all, any of a list of truths -/
def blsOf : List D → Option (List Bool)
  | [] => some []
  | .bl b :: l => (blsOf l).map (b :: ·)
  | _ => none
theorem bls_ok {r : Option Addr} {Z : Addr → Prop} {H : Hp} : ∀ {l : List D} {vs : List V} {bs : List Bool}, RepL F.K r Z H l vs → blsOf l = some bs → vs = bs.map V.bl
  | [], vs, bs, h, e => by simp only [RepL] at h; cases e; subst h; rfl
  | d :: l, vs, bs, h, e => by
    cases d with
    | bl b =>
      simp only [blsOf] at e
      obtain ⟨cs, ec, rfl⟩ := Option.map_eq_some_iff.mp e
      simp only [RepL, Rep] at h
      obtain ⟨v, t, rfl, rfl, q⟩ := h
      rw [bls_ok q ec, List.map_cons]
    | _ => cases e
def pAll : List D → Option (D × Kd)
  | [.lst l] => (blsOf l).map fun bs => (.bl (bs.all id), .sh)
  | _ => none
def pAny : List D → Option (D × Kd)
  | [.lst l] => (blsOf l).map fun bs => (.bl (bs.any id), .sh)
  | _ => none
theorem prim_all : PrimL F (rAll F.K) pAll := by
  intro r Z σ H ρ W l vs z kz Q s q e k
  unfold pAll at e
  split at e
  · rename_i l' el
    obtain ⟨bs, eb, e⟩ := Option.map_eq_some_iff.mp e
    cases e
    obtain ⟨v, kv, rfl, q1⟩ := repKs1 q el
    obtain ⟨a, us, rfl, h, rl⟩ := q1.list
    have := bls_ok rl eb
    subst this
    exact ⟨a, bs, rfl, .inl (.inl h), same s k (by simp [Rep])⟩
  · cases e
theorem prim_any : PrimL F (rAny F.K) pAny := by
  intro r Z σ H ρ W l vs z kz Q s q e k
  unfold pAny at e
  split at e
  · rename_i l' el
    obtain ⟨bs, eb, e⟩ := Option.map_eq_some_iff.mp e
    cases e
    obtain ⟨v, kv, rfl, q1⟩ := repKs1 q el
    obtain ⟨a, us, rfl, h, rl⟩ := q1.list
    have := bls_ok rl eb
    subst this
    exact ⟨a, bs, rfl, .inl (.inl h), same s k (by simp [Rep])⟩
  · cases e
/-! ### slices -/
def cutD (l : List D) (lo hi : Option Int) : List D := (l.drop (HT.sIx l.length 0 lo)).take (HT.sIx l.length l.length hi - HT.sIx l.length 0 lo)
def pSl (d : D) (lo hi : Option Int) : Option (D × Kd) := match d with
  | .lst l => some (.lst (cutD l lo hi), .fr)
  | .tup l => some (.tup (cutD l lo hi), .sh)
  | _ => none
/-- a part of a slice -/
def cPart (f : Option Sm) (g : Option Int → Sm) : Sm := match f with
  | none => g none
  | some f => cBind f fun d _ => match d with | .int i => g (some i) | _ => fun _ _ => none
def cSl (f : Sm) (lo hi : Option Sm) : Sm := cBind f fun d _ => cPart lo fun i => cPart hi fun j => cVal (pSl d i j)
def tO (F : Fx) (Wx : WX) : Option Sm → TO
  | none => tNoPart
  | some f => tPart (tE F Wx f)
theorem tO_of {r : Option Addr} {Z : Addr → Prop} {σ : St} {H : Hp} {ρ : Env'} {W : Ro} {Q : VK} {f : Option Sm} {g : Option Int → Sm} (s : Sim F r Z σ H ρ W) (h : EvAt F Wx r Z σ H ρ Q (cPart f g ρ W)) :
    tO F Wx f σ H fun i H1 => ∃ Z1 W1, EPost F r Z Z1 σ H H1 ρ W1 ∧ EvAt F Wx r Z1 σ H1 ρ Q (g i ρ W1) := by
  cases f with
  | none => exact ⟨Z, W, EPost.refl s, h⟩
  | some f =>
    refine tE_mono (tE_bind s h) fun v H1 ⟨Z1, d, kd, W1, p, q, _, h⟩ => ?_
    cases d with
    | int i => exact ⟨i, q.int, Z1, W1, p, h⟩
    | _ => exact h.elim
theorem pE_sl {e : Expr} {lo hi : Option Expr} {f : Sm} {fl fh : Option Sm} {p2 pos : Pos} (hK : X.K = F.K) (he : PE X e (tE F Wx f)) (hl : PO X lo (tO F Wx fl)) (hh : PO X hi (tO F Wx fh)) : PE X (.Subscript e (.Slice lo hi none p2) pos) (tE F Wx (cSl f fl fh)) := by
  have sr : SlR X (fun x lo hi H Q => rSlL X.K x lo hi H Q ∨ rSlA X.K x lo hi H Q) := by
    intro pins s σ H x v vl vu lo hi sl Q I rx hs pl pu h
    rcases h with h | h
    · exact sl_list pins s σ H x v vl vu lo hi sl Q I rx hs pl pu h
    · exact sl_tupA pins s σ H x v vl vu lo hi sl Q I rx hs pl pu h
  refine PE.imp (pe_slice sr he hl hh) fun σ H Q ⟨r, Z, ρ, W, s, h⟩ => ?_
  refine tE_mono (tE_bind s h) fun v H1 ⟨Z1, d, kd, W1, p, q, _, h⟩ => ?_
  have m : ∀ {f : Option Sm} {H : Hp} {R R' : Option Int → Hp → Prop}, tO F Wx f σ H R → (∀ i H', R i H' → R' i H') → tO F Wx f σ H R' := by
    intro f H R R' h k
    cases f with
    | none => exact k _ _ h
    | some f => exact tE_mono h fun v H' ⟨i, e, q⟩ => ⟨i, e, k _ _ q⟩
  refine m (tO_of p.sim h) fun i H2 ⟨Z2, W2, p2, h⟩ => ?_
  refine m (tO_of p2.sim h) fun j H3 ⟨Z3, W3, p3, h⟩ => ?_
  have q3 := (q.later p2 p.sim).later p3 p2.sim
  obtain ⟨z, kz, e, k⟩ := EvAt.val (d := .non) (k := .sh) h
  unfold pSl at e
  cases d with
  | lst l =>
    cases e
    obtain ⟨a, vs, rfl, hv, rl⟩ := q3.list
    refine .inl ⟨a, vs, rfl, .inl (.inl hv), fun pp np => ?_⟩
    have rc : RepL F.K r Z3 H3 (cutD l i j) (cutV vs i j) := by
      unfold cutD cutV
      rw [rl.length]
      exact (rl.drop _).take _
    exact newLst p3.sim k rc np
  | tup l =>
    cases e
    obtain ⟨a, vs, rfl, hv, rl⟩ := q3.tup
    refine .inr ⟨a, vs, rfl, by rw [hK]; exact hv, fun hw => ?_, fun _ pp np => ?_⟩
    · have e : cutD l i j = l := by
        unfold cutD
        rw [rl.length, hw.1, hw.2]
        rw [List.drop_zero, ← rl.length]
        exact List.take_of_length_le (by omega)
      rw [e] at k
      exact same p3.sim k (by simp only [Rep]; exact ⟨a, vs, rfl, hv, rl⟩)
    · have rc : RepL F.K r Z3 H3 (cutD l i j) (cutV vs i j) := by
        unfold cutD cutV
        rw [rl.length]
        exact (rl.drop _).take _
      exact newTup p3.sim k rc np
  | _ => cases e
theorem pO_none : PO X none (tO F Wx none) := po_none
theorem pO_some {e : Expr} {f : Sm} (h : PE X e (tE F Wx f)) : PO X (some e) (tO F Wx (some f)) := po_some h
/-! ### *x in a display -/
def cStar (f : Sm) (g : SmL) : SmL := fun ρ W =>
  match cFr f ρ W with
  | none => none
  | some (.exc c W') => some (.exc c W')
  | some (.val d _ W') => match seqOf d with
    | none => none
    | some ds => match g ρ W' with
      | none => none
      | some (.exc c W'') => some (.exc c W'')
      | some (.vals l W'') => some (.vals (ds.map (fun d => (d, .sh)) ++ l) W'')
theorem fr_sh {f : Sm} {ρ : Env'} {W W' : Ro} {d : D} {k : Kd} (e : cFr f ρ W = some (.val d k W')) : k = .sh := by
  unfold cFr cBind cVal at e
  cases e2 : f ρ W with
  | none => rw [e2] at e; cases e
  | some o =>
    rw [e2] at e
    cases o with
    | exc c W' => cases e
    | val d' k' W' =>
      cases k' <;> simp at e
      · exact e.2.1.symm
      · exact e.2.1.symm
theorem shs_app {r : Option Addr} {Z : Addr → Prop} {σ : St} {H Hs : Hp} {ρ : Env'} {l : List (D × Kd)} {us : List V} (q : RepKs F r Z σ H ρ l us) (fo : FrOk Hs l us) : ∀ {ds : List D} {vs : List V}, RepL F.K r Z H ds vs → RepKs F r Z σ H ρ (ds.map (fun d => (d, .sh)) ++ l) (vs ++ us) ∧ FrOk Hs (ds.map (fun d => (d, .sh)) ++ l) (vs ++ us)
  | [], vs, h => by simp only [RepL] at h; subst h; exact ⟨q, fo⟩
  | d :: ds, vs, h => by
    simp only [RepL] at h
    obtain ⟨v, t, rfl, q1, rl⟩ := h
    obtain ⟨i1, i2⟩ := shs_app q fo rl
    exact ⟨⟨v, t ++ us, rfl, q1, i1⟩, ⟨v, t ++ us, rfl, (fun z => nomatch z), i2⟩⟩
theorem pA_star {e : Expr} {es : List Expr} {f : Sm} {g : SmL} {p : Pos} (hK : X.K = F.K) (he : PE X e (tE F Wx f)) (hr : PA X es (tA F Wx g)) (hs : starEach (.Starred e p :: es) X.env = (true, eval e X.env) :: starEach es X.env) : PA X (.Starred e p :: es) (tA F Wx (cStar f g)) := by
  refine PA.imp (StX.pa_star (pE_fr he) hr hs) fun σ H Q ⟨r, Z, ρ, W, s, h⟩ => ?_
  refine ⟨r, Z, ρ, W, s, ?_⟩
  unfold cStar at h
  cases e1 : cFr f ρ W with
  | none => rw [e1] at h; exact h
  | some o =>
    rw [e1] at h
    cases o with
    | exc c W' => exact h
    | val d k W' =>
      have hk := fr_sh e1
      subst hk
      dsimp only at h
      intro v H1 Z1 p1 q1 _
      cases e2 : seqOf d with
      | none => rw [e2] at h; exact h.elim
      | some ds =>
        rw [e2] at h
        dsimp only at h
        have go : ∀ {a : Addr} {vs : List V}, RepL F.K r Z1 H1 ds vs → tA F Wx g σ H1 fun ys H2 => Q (vs ++ ys) H2 := by
          intro a vs rl
          refine ⟨r, Z1, ρ, W', p1.sim, ?_⟩
          cases e3 : g ρ W' with
          | none => rw [e3] at h; exact h
          | some o =>
            rw [e3] at h
            cases o with
            | exc c W' => exact fun H' Z' C a b => h H' Z' C (p1.trans a) b
            | vals l W'' =>
              intro us H2 Z2 p2 q2 fo
              obtain ⟨i1, i2⟩ := shs_app q2 (fo.back fun b n => p1.none n) (rl.later p2 p1.sim)
              exact h _ H2 Z2 (p1.trans p2) i1 i2
        cases d with
        | tup l =>
          cases e2
          obtain ⟨a, vs, rfl, ht, rl⟩ := RepK.tup (k := .sh) q1
          exact ⟨a, vs, rfl, .inl (by rw [hK]; exact ht), go (a := a) rl⟩
        | lst l =>
          cases e2
          obtain ⟨a, vs, rfl, ht, rl⟩ := RepK.list (k := .sh) q1
          exact ⟨a, vs, rfl, .inr (.inl (.inl ht)), go (a := a) rl⟩
        | _ => cases e2
/-! ### a < b < c -/
def cChain (p q : Ro → D → D → Option (D × Kd)) (f g h : Sm) : Sm := cBind f fun d _ => cBind g fun e _ => cBind (fun ρ W => cVal (p W d e) ρ W) fun x _ => match x with
  | .bl true => cBind h fun z _ => fun ρ W => cVal (q W e z) ρ W
  | .bl false => cVal (some (.bl false, .sh))
  | _ => fun _ _ => none
end
end Wk

set_option Elab.async false
set_option linter.all false
set_option maxRecDepth 100000
set_option maxHeartbeats 2000000
/-! # zip of any few lists and tuples -/
namespace Wk
open PySem PySem.Spec L2
open PySem.Sem (wp)
theorem nq {a b : Nat} (h : a < b ∨ b < a) : a ≠ b := by omega

structure Src where
  l : Addr
  tp : Bool
  xs : Array Value
def Src.seq (S : Src) (h : Heap) : Prop := match S.tp with | true => h.IsTuple S.l S.xs | false => h.IsList S.l S.xs
def Src.itr (S : Src) (h : Heap) (it : Addr) (k : Nat) : Prop := match S.tp with | true => h.IsTupleIter it S.l k | false => h.IsListIter it S.l k
def Src.ob (S : Src) : Obj := match S.tp with | true => { cls := .type "tuple_iterator", data := .fields #[.ref S.l, .int 0 0] } | false => { cls := .type "list_iterator", data := .fields #[.ref S.l, .int 0 0] }
theorem Src.seq_at {S : Src} {h h' : Heap} (x : S.seq h) (k : ∀ o, h.get? S.l = some o → h'.get? S.l = some o) : S.seq h' := by
  obtain ⟨l, tp, xs⟩ := S
  cases tp with
  | true => obtain ⟨o, e, r⟩ := x; exact ⟨o, k o e, r⟩
  | false => obtain ⟨o, e, r⟩ := x; exact ⟨o, k o e, r⟩
theorem Src.itr_at {S : Src} {h h' : Heap} {it : Addr} {i : Nat} (x : S.itr h it i) (k : ∀ o, h.get? it = some o → h'.get? it = some o) : S.itr h' it i := by
  obtain ⟨l, tp, xs⟩ := S
  cases tp with
  | true => obtain ⟨o, e, r⟩ := x; exact ⟨o, k o e, r⟩
  | false => obtain ⟨o, e, r⟩ := x; exact ⟨o, k o e, r⟩
theorem Src.itr_ob {S : Src} {h : Heap} {it : Addr} {i : Nat} (x : S.itr h it i) : ∃ o, h.get? it = some o ∧ (∀ v, o.data ≠ .cell v) := by
  obtain ⟨l, tp, xs⟩ := S
  cases tp with
  | true => obtain ⟨o, e, c, d⟩ := x; exact ⟨o, e, (fun v q => by rw [d] at q; cases q)⟩
  | false => obtain ⟨o, e, c, d⟩ := x; exact ⟨o, e, (fun v q => by rw [d] at q; cases q)⟩
abbrev IsTupA (h : Heap) (T : Addr) (vs : Array Value) : Prop := h.get? T = some { cls := .type "tuple", data := .seq vs }
section
variable {prog : Program} {w : World} {A : Around} {E : Value → Shared → Prop} {s : Shared}
theorem src_item {S : Src} {it : Addr} {i : Nat} {x : Value} {Q : Value → Shared → Prop} (hi : S.itr s.heap it i) (hs : S.seq s.heap) (hx : S.xs[i]? = some x)
    (hQ : ∀ h', S.itr h' it (i + 1) → Heap.SameBut it s.heap h' → Q x { s with heap := h' }) : wpAny (model prog w) A (Builtin.SmallTypes.nextOf (.ref it)) Q E s := by
  obtain ⟨l, tp, xs⟩ := S
  cases tp with
  | true => exact RZ.nextOf_tuple_item hi hs hx hQ
  | false => exact wpAny_nextOf_list_item hi hs hx hQ
theorem src_end {S : Src} {it : Addr} {i : Nat} {Q : Value → Shared → Prop} (hh : A.handled = none) (hi : S.itr s.heap it i) (hs : S.seq s.heap) (hx : S.xs[i]? = none)
    (hE : ∀ h' e, Heap.ExtBut it s.heap h' → (∃ o, h'.get? e = some o ∧ o.cls = .type "StopIteration") → E (.ref e) { s with heap := h' }) : wpAny (model prog w) A (Builtin.SmallTypes.nextOf (.ref it)) Q E s := by
  obtain ⟨l, tp, xs⟩ := S
  cases tp with
  | true => exact RZ.nextOf_tuple_end hh hi hs hx hE
  | false => exact wpAny_nextOf_list_end hh hi hs hx hE
theorem src_iter {S : Src} {Q : Value → Shared → Prop} (hs : S.seq s.heap) (hQ : Q (.ref s.heap.objs.size) { s with heap := s.heap.push S.ob }) : wpAny (model prog w) A (pyIter (.ref S.l)) Q E s := by
  obtain ⟨l, tp, xs⟩ := S
  cases tp with
  | true => exact wpAny_pyIter_tuple hs hQ
  | false => exact wpAny_pyIter_list hs hQ

def refs : Addr → Nat → List Value
  | _, 0 => []
  | a, m + 1 => .ref a :: refs (a + 1) m
theorem refs_length (a : Addr) (m : Nat) : (refs a m).length = m := by
  induction m generalizing a with
  | zero => rfl
  | succ m ih => simp [refs, ih]
abbrev LSt := Option Fin × Unit
/-- a turn of the loop, whatever stands for an exhausted one (not come to) -/
def ZTurn (z TO : Addr) (f : Value × Nat → LSt → Sem (ForInStep LSt)) : Prop := ∀ it k st, ∃ g : Sem (ForInStep LSt), f (it, k) st = (do
  let r ← (Builtin.SmallTypes.nextOf it >>= fun v => pure (some v)).onRaise fun _ => setField (.ref z) 0 .none
  match r with
  | some x => do
    let kp ← seqItems? (.ref TO)
    match kp with
    | some kept => do
      updateSeq TO fun a => a.setIfInBounds k x
      letGo [kept.getD k .none]
      pure (ForInStep.yield ((none, ()) : LSt))
    | _ => do
      unsupported "internal:zip.__next__"
      pure (ForInStep.yield ((none, ()) : LSt))
  | none => g)
/-- the sources stand, at turn i, from the k-th on -/
def Stand (b i : Nat) (h : Heap) (k : Nat) (Ss : List Src) : Prop := ∀ (j : Nat) (S : Src), Ss[j]? = some S → S.itr h (b + k + j) i ∧ S.seq h ∧ S.l < b
theorem Stand.tail {b i k : Nat} {h : Heap} {S : Src} {Ss : List Src} (x : Stand b i h k (S :: Ss)) : Stand b i h (k + 1) Ss := fun j T e => by
  have q := x (j + 1) T (by simpa using e)
  rw [show b + k + (j + 1) = b + (k + 1) + j by omega] at q
  exact q
theorem Stand.at {b i k : Nat} {h h' : Heap} {Ss : List Src} (x : Stand b i h k Ss) (hk : ∀ c o, c < b ∨ (b + k ≤ c ∧ c < b + k + Ss.length) → h.get? c = some o → h'.get? c = some o) : Stand b i h' k Ss := fun j S e => by
  obtain ⟨h1, h2, h3⟩ := x j S e
  have hj := (List.getElem?_eq_some_iff.mp e).1
  exact ⟨Src.itr_at h1 fun o q => hk _ o (.inr ⟨by omega, by omega⟩) q, Src.seq_at h2 fun o q => hk _ o (.inl h3) q, h3⟩
theorem zloop {f : Value × Nat → LSt → Sem (ForInStep LSt)} {b n i : Nat} (hf : ZTurn (b + n + 2) (b + n + 1) f) (hn : n < 100) : ∀ (Ss : List Src) (k : Nat) (s : Shared) (arr : Array Value) (E : Value → Shared → Prop) (Q : LSt → Shared → Prop) (st : LSt), k + Ss.length = n → Stand b i s.heap k Ss → IsTupA s.heap (b + n + 1) arr → arr.size = n → st = (none, ()) →
    (∀ (j : Nat) (S : Src), Ss[j]? = some S → ∃ x, S.xs[i]? = some x) →
    (∀ h' arr', IsTupA h' (b + n + 1) arr' → arr'.size = n → (∀ j, j < k → arr'[j]? = arr[j]?) → (∀ (j : Nat) (S : Src), Ss[j]? = some S → S.itr h' (b + k + j) (i + 1) ∧ arr'[k + j]? = S.xs[i]?) → h'.objs.size = s.heap.objs.size →
      (∀ c o, c ≠ b + n + 1 → ¬ (b + k ≤ c ∧ c < b + n) → s.heap.get? c = some o → h'.get? c = some o) → Q (none, ()) { s with heap := h' }) →
    wpAny (model prog w) A (forIn ((refs (b + k) Ss.length).zipIdx k) st f) Q E s
  | [], k, s, arr, E, Q, st, hl, hS, hT, hz, hst, hx, hQ => by
    subst hst
    show wpAny _ _ (forIn ([] : List (Value × Nat)) _ f) _ _ _
    rw [List.forIn_nil]
    exact wpAny_pure (hQ s.heap arr hT hz (fun _ _ => rfl) (fun j S e => by simp at e) rfl fun c o _ _ e => e)
  | S :: Ss, k, s, arr, E, Q, st, hl, hS, hT, hz, hst, hx, hQ => by
    subst hst
    show wpAny _ _ (forIn (List.zipIdx (.ref (b + k) :: refs (b + k + 1) Ss.length) k) _ f) _ _ _
    rw [List.zipIdx_cons, List.forIn_cons]
    obtain ⟨g, hg⟩ := hf (.ref (b + k)) k (none, ())
    rw [hg]
    simp only [List.length_cons] at hl
    obtain ⟨h1, h2, h3⟩ := hS 0 S rfl
    rw [Nat.add_zero] at h1
    obtain ⟨x, ex⟩ := hx 0 S rfl
    refine wpAny_bind (wpAny_bind (wpAny_onRaise (wpAny_bind (src_item h1 h2 ex fun hA iA sA => wpAny_pure ?_))))
    have hTA : IsTupA hA (b + n + 1) arr := sA.extBut (b + n + 1) _ (nq (by omega)) hT
    refine wpAny_bind (wpAny_seqItems hTA rfl ?_)
    refine wpAny_bind (wpAny_updateSeq (xs := arr) (n := 0) hTA rfl (wpAny_bind (wpAny_letGo (wpAny_pure ?_))) (by rw [hz, sizeLine_eq]; omega) (by rw [Array.size_setIfInBounds, hz, sizeLine_eq]; omega))
    have sB : Heap.SameBut (b + n + 1) hA (hA.update (b + n + 1) (Obj.mapSeq fun a => a.setIfInBounds k x)) := Heap.SameBut.update ..
    have hTB : IsTupA (hA.update (b + n + 1) (Obj.mapSeq fun a => a.setIfInBounds k x)) (b + n + 1) (arr.setIfInBounds k x) := (by rw [IsTupA, Heap.get?_update_self _ hTA (by rfl)]; simp [Obj.mapSeq])
    generalize hA.update (b + n + 1) (Obj.mapSeq fun a => a.setIfInBounds k x) = hB at sB hTB ⊢
    have keep : ∀ c o, c ≠ b + n + 1 → c ≠ b + k → s.heap.get? c = some o → hB.get? c = some o := fun c o c1 c2 e => sB.extBut _ _ c1 (sA.extBut _ _ c2 e)
    have hB1 : S.itr hB (b + k) (i + 1) := Src.itr_at iA fun o e => sB.extBut _ _ (nq (by omega)) e
    have hs2 : Stand b i hB (k + 1) Ss := hS.tail.at fun c o hc e => keep c o (by omega) (by omega) e
    have hadd : b + k + 1 = b + (k + 1) := by omega
    show wpAny _ _ (forIn ((refs (b + k + 1) Ss.length).zipIdx (k + 1)) ((none, ()) : LSt) f) _ _ _
    rw [hadd]
    refine zloop hf hn Ss (k + 1) _ (arr.setIfInBounds k x) E Q _ (by omega) hs2 hTB (by rw [Array.size_setIfInBounds]; exact hz) rfl (fun j T e => hx (j + 1) T (by simpa using e)) fun h' arr' a1 a2 a3 a4 a5 a6 => ?_
    refine hQ h' arr' a1 a2 (fun j hj => ?_) (fun j T e => ?_) (a5.trans (sB.1.trans sA.1)) fun c o c1 c2 e => ?_
    · rw [a3 j (by omega)]
      exact Array.getElem?_setIfInBounds_ne (by omega)
    · cases j with
      | zero =>
        simp only [List.getElem?_cons_zero, Option.some.injEq] at e
        subst e
        refine ⟨Src.itr_at hB1 fun o e => a6 _ o (by omega) (by omega) e, ?_⟩
        rw [Nat.add_zero, a3 k (by omega), ex]
        exact Array.getElem?_setIfInBounds_self_of_lt (by rw [hz]; omega)
      | succ j =>
        have q := a4 j T (by simpa using e)
        rw [show b + k + (j + 1) = b + (k + 1) + j by omega, show k + (j + 1) = k + 1 + j by omega]
        exact q
    · exact a6 c o c1 (by omega) (keep c o c1 (by omega) e)
theorem zloop_end {f : Value × Nat → LSt → Sem (ForInStep LSt)} {b n i : Nat} (hf : ZTurn (b + n + 2) (b + n + 1) f) (hn : n < 100) (hh : A.handled = none) : ∀ (Ss : List Src) (k : Nat) (s : Shared) (arr : Array Value) (E : Value → Shared → Prop) (Q : LSt → Shared → Prop) (st : LSt), k + Ss.length = n → Stand b i s.heap k Ss → IsTupA s.heap (b + n + 1) arr → arr.size = n → (∃ f0, IsZip s.heap (b + n + 2) (b + n) (b + n + 1) f0) →
    (∃ (j : Nat) (S : Src), Ss[j]? = some S ∧ S.xs[i]? = none) →
    (∀ h' e, (∀ c o, c ≠ b + n + 1 → c ≠ b + n + 2 → ¬ (b + k ≤ c ∧ c < b + n) → s.heap.get? c = some o → h'.get? c = some o) → (∃ o, h'.get? e = some o ∧ o.cls = .type "StopIteration") → E (.ref e) { s with heap := h' }) →
    wpAny (model prog w) A (forIn ((refs (b + k) Ss.length).zipIdx k) st f) Q E s
  | [], k, s, arr, E, Q, st, hl, hS, hT, hz, hzp, hx, hE => by
    obtain ⟨j, S, e, _⟩ := hx
    simp at e
  | S :: Ss, k, s, arr, E, Q, st, hl, hS, hT, hz, hzp, hx, hE => by
    show wpAny _ _ (forIn (List.zipIdx (.ref (b + k) :: refs (b + k + 1) Ss.length) k) _ f) _ _ _
    rw [List.zipIdx_cons, List.forIn_cons]
    obtain ⟨g, hg⟩ := hf (.ref (b + k)) k st
    rw [hg]
    simp only [List.length_cons] at hl
    obtain ⟨f0, hzp⟩ := hzp
    obtain ⟨h1, h2, h3⟩ := hS 0 S rfl
    rw [Nat.add_zero] at h1
    cases ex : S.xs[i]? with
    | none =>
      refine wpAny_bind (wpAny_bind (wpAny_onRaise (wpAny_bind (src_end hh h1 h2 ex fun hA e eA he => ?_))))
      obtain ⟨oe, hoe, hce⟩ := he
      have hzA : IsZip hA (b + n + 2) (b + n) (b + n + 1) f0 := eA _ _ (nq (by omega)) hzp
      have hez : e ≠ b + n + 2 := fun q => by subst q; rw [hzA] at hoe; cases hoe; simp at hce
      refine wpAny_setField_rec hzA (by simp) fun h₃ _ hs₃ => hE h₃ e (fun c o c1 c2 c3 q => hs₃.extBut _ _ c2 (eA _ _ (nq (by omega)) q)) ⟨oe, hs₃.extBut _ _ hez hoe, hce⟩
    | some x =>
      refine wpAny_bind (wpAny_bind (wpAny_onRaise (wpAny_bind (src_item h1 h2 ex fun hA iA sA => wpAny_pure ?_))))
      have hTA : IsTupA hA (b + n + 1) arr := sA.extBut (b + n + 1) _ (nq (by omega)) hT
      refine wpAny_bind (wpAny_seqItems hTA rfl ?_)
      refine wpAny_bind (wpAny_updateSeq (xs := arr) (n := 0) hTA rfl (wpAny_bind (wpAny_letGo (wpAny_pure ?_))) (by rw [hz, sizeLine_eq]; omega) (by rw [Array.size_setIfInBounds, hz, sizeLine_eq]; omega))
      have sB : Heap.SameBut (b + n + 1) hA (hA.update (b + n + 1) (Obj.mapSeq fun a => a.setIfInBounds k x)) := Heap.SameBut.update ..
      have hTB : IsTupA (hA.update (b + n + 1) (Obj.mapSeq fun a => a.setIfInBounds k x)) (b + n + 1) (arr.setIfInBounds k x) := (by rw [IsTupA, Heap.get?_update_self _ hTA (by rfl)]; simp [Obj.mapSeq])
      generalize hA.update (b + n + 1) (Obj.mapSeq fun a => a.setIfInBounds k x) = hB at sB hTB ⊢
      have keep : ∀ c o, c ≠ b + n + 1 → c ≠ b + k → s.heap.get? c = some o → hB.get? c = some o := fun c o c1 c2 e => sB.extBut _ _ c1 (sA.extBut _ _ c2 e)
      have hs2 : Stand b i hB (k + 1) Ss := hS.tail.at fun c o hc e => keep c o (by omega) (by omega) e
      have hadd : b + k + 1 = b + (k + 1) := by omega
      show wpAny _ _ (forIn ((refs (b + k + 1) Ss.length).zipIdx (k + 1)) ((none, ()) : LSt) f) _ _ _
      rw [hadd]
      refine zloop_end hf hn hh Ss (k + 1) _ (arr.setIfInBounds k x) E Q _ (by omega) hs2 hTB (by rw [Array.size_setIfInBounds]; exact hz) ⟨f0, keep _ _ (by omega) (by omega) hzp⟩ ?_ fun h' e hk he => hE h' e (fun c o c1 c2 c3 q => hk c o c1 c2 (by omega) (keep c o c1 (by omega) q)) he
      obtain ⟨j, T, ej, eT⟩ := hx
      cases j with
      | zero =>
        simp only [List.getElem?_cons_zero, Option.some.injEq] at ej
        subst ej
        rw [ex] at eT; cases eT
      | succ j => exact ⟨j, T, by simpa using ej, eT⟩
/-- the zip's own objects at a turn -/
structure ZSt (b n i : Nat) (Ss : List Src) (h : Heap) : Prop where
  len : Ss.length = n
  z : IsZip h (b + n + 2) (b + n) (b + n + 1) .none
  ti : IsTupA h (b + n) (refs b n).toArray
  to : ∃ arr : Array Value, IsTupA h (b + n + 1) arr ∧ arr.size = n
  its : ∀ (j : Nat) (S : Src), Ss[j]? = some S → S.itr h (b + j) i
theorem ZSt.stand {b n i : Nat} {Ss : List Src} {h : Heap} (x : ZSt b n i Ss h) (hs : ∀ (j : Nat) (S : Src), Ss[j]? = some S → S.seq h ∧ S.l < b) : Stand b i h 0 Ss := fun j S e => ⟨by rw [Nat.add_zero]; exact x.its j S e, (hs j S e).1, (hs j S e).2⟩
theorem zip_next_itemN {b n i : Nat} {Ss : List Src} {Q : Value → Shared → Prop} (hn : n < 100) (hn0 : 0 < n) (x : ZSt b n i Ss s.heap) (hs : ∀ (j : Nat) (S : Src), Ss[j]? = some S → S.seq s.heap ∧ S.l < b) (hx : ∀ (j : Nat) (S : Src), Ss[j]? = some S → ∃ v, S.xs[i]? = some v)
    (hQ : ∀ h' (arr : Array Value), arr.size = n → (∀ (j : Nat) (S : Src), Ss[j]? = some S → arr[j]? = S.xs[i]?) → IsTupA h' s.heap.objs.size arr → IsZip h' (b + n + 2) (b + n) (b + n + 1) (rawInt s.heap.objs.size) → IsTupA h' (b + n) (refs b n).toArray → IsTupA h' (b + n + 1) arr → (∀ (j : Nat) (S : Src), Ss[j]? = some S → S.itr h' (b + j) (i + 1)) →
      (∀ c o, c < b ∨ b + n + 2 < c → s.heap.get? c = some o → h'.get? c = some o) → Q (.ref s.heap.objs.size) { s with heap := h' }) :
    wpAny (model prog w) A (Builtin.«zip.__next__» ⟨[.ref (b + n + 2)], []⟩) (fun fin s' => ∃ v, fin = .done (.ret v) ∧ Q v s') E s := by
  obtain ⟨hl, hz, hTI, ⟨arr0, hTO, hz0⟩, hit⟩ := id x
  show wpAny _ _ (field (.ref (b + n + 2)) 2 >>= _) _ _ _
  refine wpAny_bind (wpAny_field hz rfl (x := .bool false) rfl ?_)
  show wpAny _ _ (field (.ref (b + n + 2)) 3 >>= _) _ _ _
  refine wpAny_bind (wpAny_field hz rfl (x := .ref (b + n)) rfl ?_)
  refine wpAny_bind (wpAny_seqItems hTI rfl ?_)
  have hne : ((refs b n).toArray).isEmpty = false := by
    cases n with
    | zero => omega
    | succ m => rfl
  simp only [hne, Bool.false_eq_true, if_false]
  show wpAny _ _ (Builtin.SmallTypes.ownedTupleIsFree (.ref (b + n + 2)) >>= _) _ _ _
  refine wpAny_bind ?_
  unfold Builtin.SmallTypes.ownedTupleIsFree
  refine wpAny_bind (wpAny_field hz rfl (x := .none) rfl (wpAny_pure ?_))
  simp only [if_true]
  refine wpAny_bind (wpAny_rule ?_)
  refine wpAny_bind (wpAny_field hz rfl (x := .ref (b + n + 1)) rfl ?_)
  refine wpAny_bind (wpAny_setField_rec hz (by simp) fun h₁ hz₁ hs₁ => ?_)
  replace hz₁ : IsZip h₁ (b + n + 2) (b + n) (b + n + 1) .ellipsis := hz₁
  refine wpAny_bind ?_
  have hst := x.stand hs
  have hst1 : Stand b i h₁ 0 Ss := hst.at fun c o hc e => hs₁.extBut _ _ (nq (by omega)) e
  have hlst : (refs b n).toArray.toList.zipIdx = (refs (b + 0) Ss.length).zipIdx 0 := by rw [hl]; simp
  rw [hlst]
  refine zloop (b := b) (n := n) (i := i) (fun it k st => ⟨_, rfl⟩) hn Ss 0 _ arr0 E _ _ (by omega) hst1 (hs₁.extBut _ _ (nq (by omega)) hTO) hz0 rfl hx fun h₂ arr a1 a2 _ a4 a5 a6 => ?_
  show wpAny _ _ (seqItems? (.ref (b + n + 1)) >>= _) _ _ _
  refine wpAny_bind (wpAny_seqItems a1 rfl ?_)
  refine wpAny_bind (wpAny_newTuple ?_ (by rw [Array.length_toList, a2, sizeLine_eq]; omega))
  have hsz : h₂.objs.size = s.heap.objs.size := a5.trans hs₁.1
  have hz₂ : IsZip h₂ (b + n + 2) (b + n) (b + n + 1) .ellipsis := a6 _ _ (by omega) (by omega) hz₁
  have hTI₂ : IsTupA h₂ (b + n) (refs b n).toArray := a6 _ _ (by omega) (by omega) (hs₁.extBut _ _ (nq (by omega)) hTI)
  have hzlt : b + n + 2 < h₂.objs.size := Heap.lt_size hz₂
  show wpAny _ _ (Builtin.SmallTypes.ownedTupleHandOut (.ref (b + n + 2)) (.ref h₂.objs.size) >>= _) _ _ _
  refine wpAny_bind ?_
  unfold Builtin.SmallTypes.ownedTupleHandOut
  have earr : arr.toList.toArray = arr := by simp
  have hz₆ : IsZip (h₂.push { cls := .type "tuple", data := .seq arr.toList.toArray }) (b + n + 2) (b + n) (b + n + 1) .ellipsis := Heap.get?_push_of_some _ hz₂
  refine wpAny_bind (wpAny_setField_rec hz₆ (by simp) fun h₇ hz₇ hs₇ => ?_)
  replace hz₇ : IsZip h₇ (b + n + 2) (b + n) (b + n + 1) (rawInt h₂.objs.size) := hz₇
  refine wpAny_setField_rec hz₇ (by simp) fun h₈ hz₈ hs₈ => ?_
  replace hz₈ : IsZip h₈ (b + n + 2) (b + n) (b + n + 1) (rawInt h₂.objs.size) := hz₈
  have up : ∀ c o, c ≠ b + n + 2 → h₂.get? c = some o → h₈.get? c = some o := fun c o c1 e => hs₈.extBut _ _ c1 (hs₇.extBut _ _ c1 (Heap.get?_push_of_some _ e))
  have hT₈ : IsTupA h₈ h₂.objs.size arr := hs₈.extBut _ _ (nq (by omega)) (hs₇.extBut _ _ (nq (by omega)) (by rw [← earr]; exact Heap.get?_push_size _ (by rw [earr] <;> rfl)))
  rw [hsz] at hz₈ hT₈
  refine wpAny_pure ⟨_, rfl, ?_⟩
  show Q (.ref h₂.objs.size) _
  rw [hsz]
  refine hQ h₈ arr a2 (fun j S e => ?_) hT₈ hz₈ (up _ _ (by omega) hTI₂) (up _ _ (by omega) a1) (fun j S e => ?_) fun c o hc e => up c o (by omega) (a6 c o (by omega) (by omega) (hs₁.extBut _ _ (nq (by omega)) e))
  · have q := (a4 j S e).2
    rw [Nat.zero_add] at q
    exact q
  · have hj := (List.getElem?_eq_some_iff.mp e).1
    have q := (a4 j S e).1
    rw [Nat.add_zero] at q
    exact Src.itr_at q fun o e => up _ o (by omega) e
theorem zip_next_endN {b n i : Nat} {Ss : List Src} {Q : Fin → Shared → Prop} (hh : A.handled = none) (hn : n < 100) (hn0 : 0 < n) (x : ZSt b n i Ss s.heap) (hs : ∀ (j : Nat) (S : Src), Ss[j]? = some S → S.seq s.heap ∧ S.l < b) (hx : ∃ (j : Nat) (S : Src), Ss[j]? = some S ∧ S.xs[i]? = none)
    (hE : ∀ h' e, (∀ c o, c < b ∨ b + n + 2 < c → s.heap.get? c = some o → h'.get? c = some o) → (∃ o, h'.get? e = some o ∧ o.cls = .type "StopIteration") → E (.ref e) { s with heap := h' }) :
    wpAny (model prog w) A (Builtin.«zip.__next__» ⟨[.ref (b + n + 2)], []⟩) Q E s := by
  obtain ⟨hl, hz, hTI, ⟨arr0, hTO, hz0⟩, hit⟩ := id x
  show wpAny _ _ (field (.ref (b + n + 2)) 2 >>= _) _ _ _
  refine wpAny_bind (wpAny_field hz rfl (x := .bool false) rfl ?_)
  show wpAny _ _ (field (.ref (b + n + 2)) 3 >>= _) _ _ _
  refine wpAny_bind (wpAny_field hz rfl (x := .ref (b + n)) rfl ?_)
  refine wpAny_bind (wpAny_seqItems hTI rfl ?_)
  have hne : ((refs b n).toArray).isEmpty = false := by
    cases n with
    | zero => omega
    | succ m => rfl
  simp only [hne, Bool.false_eq_true, if_false]
  show wpAny _ _ (Builtin.SmallTypes.ownedTupleIsFree (.ref (b + n + 2)) >>= _) _ _ _
  refine wpAny_bind ?_
  unfold Builtin.SmallTypes.ownedTupleIsFree
  refine wpAny_bind (wpAny_field hz rfl (x := .none) rfl (wpAny_pure ?_))
  simp only [if_true]
  refine wpAny_bind (wpAny_rule ?_)
  refine wpAny_bind (wpAny_field hz rfl (x := .ref (b + n + 1)) rfl ?_)
  refine wpAny_bind (wpAny_setField_rec hz (by simp) fun h₁ hz₁ hs₁ => ?_)
  replace hz₁ : IsZip h₁ (b + n + 2) (b + n) (b + n + 1) .ellipsis := hz₁
  refine wpAny_bind ?_
  have hst := x.stand hs
  have hst1 : Stand b i h₁ 0 Ss := hst.at fun c o hc e => hs₁.extBut _ _ (nq (by omega)) e
  have hlst : (refs b n).toArray.toList.zipIdx = (refs (b + 0) Ss.length).zipIdx 0 := by rw [hl]; simp
  rw [hlst]
  exact zloop_end (b := b) (n := n) (i := i) (fun it k st => ⟨_, rfl⟩) hn hh Ss 0 _ arr0 E _ _ (by omega) hst1 (hs₁.extBut _ _ (nq (by omega)) hTO) hz0 ⟨_, hz₁⟩ hx fun h' e hk he => hE h' e (fun c o hc q => hk c o (by omega) (by omega) (by omega) (hs₁.extBut _ _ (nq (by omega)) q)) he
end
end Wk

set_option Elab.async false
set_option linter.all false
set_option maxRecDepth 100000
set_option maxHeartbeats 4000000
namespace Wk
open PySem PySem.Spec L2
open PySem.Sem (wp)
namespace ZF
theorem typeCall_zip_3 (a b c : Value) : checkTypeCall "zip" ⟨[a, b, c], []⟩ = pure () := by kernel_rfl
theorem newCall_zip_3 (a b c : Value) : checkBuiltinCall "zip.__new__" ⟨[.type "zip", a, b, c], []⟩ = pure () := by kernel_rfl
theorem args_object_init_4 (a b c d : Value) : argsOk "object.__init__" ⟨[a, b, c, d], []⟩ := by
  unfold argsOk; rw [signature?_of (id := "object.__init__") (n := ['_', '_', 't', 'i', 'n', 'i', '_', '_']) (o := ['t', 'c', 'e', 'j', 'b', 'o']) (by kernel_rfl) PySem.F.owner_object]; kernel_rfl
theorem typeCall_zip_4 (a b c d : Value) : checkTypeCall "zip" ⟨[a, b, c, d], []⟩ = pure () := by kernel_rfl
theorem newCall_zip_4 (a b c d : Value) : checkBuiltinCall "zip.__new__" ⟨[.type "zip", a, b, c, d], []⟩ = pure () := by kernel_rfl
theorem args_object_init_5 (a b c d e : Value) : argsOk "object.__init__" ⟨[a, b, c, d, e], []⟩ := by
  unfold argsOk; rw [signature?_of (id := "object.__init__") (n := ['_', '_', 't', 'i', 'n', 'i', '_', '_']) (o := ['t', 'c', 'e', 'j', 'b', 'o']) (by kernel_rfl) PySem.F.owner_object]; kernel_rfl
end ZF
/-- the heap with the iterators -/
def zH (h : Heap) : List Src → Heap
  | [] => h
  | S :: Ss => zH (h.push S.ob) Ss
theorem zH_size (h : Heap) (Ss : List Src) : (zH h Ss).objs.size = h.objs.size + Ss.length := by
  induction Ss generalizing h with
  | nil => rfl
  | cons S Ss ih => show (zH (h.push S.ob) Ss).objs.size = _; rw [ih, Heap.size_push, List.length_cons]; omega
theorem zH_keep {h : Heap} {c : Addr} {o : Obj} (e : h.get? c = some o) (Ss : List Src) : (zH h Ss).get? c = some o := by
  induction Ss generalizing h with
  | nil => exact e
  | cons S Ss ih => exact ih (Heap.get?_push_of_some _ e)
theorem Src.ob_free (S : Src) : S.ob.isFreed = false := by
  obtain ⟨l, tp, xs⟩ := S
  cases tp <;> rfl
theorem zH_it {h : Heap} : ∀ {Ss : List Src} {j : Nat} {S : Src}, Ss[j]? = some S → (zH h Ss).get? (h.objs.size + j) = some S.ob := by
  intro Ss
  induction Ss generalizing h with
  | nil => intro j S e; simp at e
  | cons T Ss ih =>
    intro j S e
    cases j with
    | zero =>
      simp only [List.getElem?_cons_zero, Option.some.injEq] at e
      subst e
      exact zH_keep (Heap.get?_push_size _ T.ob_free) Ss
    | succ j =>
      have q := ih (h := h.push T.ob) (j := j) (S := S) (by simpa using e)
      rw [Heap.size_push, show h.objs.size + 1 + j = h.objs.size + (j + 1) by omega] at q
      exact q
theorem Src.ob_itr {S : Src} {h : Heap} {it : Addr} (e : h.get? it = some S.ob) : S.itr h it 0 := by
  obtain ⟨l, tp, xs⟩ := S
  cases tp with
  | true => exact ⟨_, e, rfl, rfl⟩
  | false => exact ⟨_, e, rfl, rfl⟩
def zEnd (h : Heap) (Ss : List Src) : Heap :=
  (((zH h Ss).push { cls := .type "tuple", data := .seq (refs h.objs.size Ss.length).toArray }).push { cls := .type "tuple", data := .seq (List.replicate Ss.length Value.none).toArray }).push
    { cls := .type "zip", data := .fields #[.none, .bool false, .bool false, .ref (h.objs.size + Ss.length), .ref (h.objs.size + Ss.length + 1)] }
theorem zEnd_ok (h : Heap) (Ss : List Src) : ZSt h.objs.size Ss.length 0 Ss (zEnd h Ss) ∧ ∀ c o, h.get? c = some o → (zEnd h Ss).get? c = some o := by
  have z1 := zH_size h Ss
  have g2 : ((zH h Ss).push { cls := .type "tuple", data := .seq (refs h.objs.size Ss.length).toArray }).get? (h.objs.size + Ss.length) = some { cls := .type "tuple", data := .seq (refs h.objs.size Ss.length).toArray } := by
    rw [← z1]; exact Heap.get?_push_size _ rfl
  have z2 : ((zH h Ss).push { cls := .type "tuple", data := .seq (refs h.objs.size Ss.length).toArray }).objs.size = h.objs.size + Ss.length + 1 := by rw [Heap.size_push, z1]
  have g3 : (((zH h Ss).push { cls := .type "tuple", data := .seq (refs h.objs.size Ss.length).toArray }).push { cls := .type "tuple", data := .seq (List.replicate Ss.length Value.none).toArray }).get? (h.objs.size + Ss.length + 1) = some { cls := .type "tuple", data := .seq (List.replicate Ss.length Value.none).toArray } := by
    rw [← z2]; exact Heap.get?_push_size _ rfl
  have z3 : (((zH h Ss).push { cls := .type "tuple", data := .seq (refs h.objs.size Ss.length).toArray }).push { cls := .type "tuple", data := .seq (List.replicate Ss.length Value.none).toArray }).objs.size = h.objs.size + Ss.length + 2 := by rw [Heap.size_push, z2]
  refine ⟨⟨rfl, ?_, ?_, ⟨(List.replicate Ss.length Value.none).toArray, ?_, by rw [List.size_toArray, List.length_replicate]⟩, fun j S e => ?_⟩, fun c o e => ?_⟩
  · show (zEnd h Ss).get? _ = _
    unfold zEnd
    rw [← z3]; exact Heap.get?_push_size _ rfl
  · exact Heap.get?_push_of_some _ (Heap.get?_push_of_some _ g2)
  · exact Heap.get?_push_of_some _ g3
  · exact Src.ob_itr (Heap.get?_push_of_some _ (Heap.get?_push_of_some _ (Heap.get?_push_of_some _ (zH_it e))))
  · exact Heap.get?_push_of_some _ (Heap.get?_push_of_some _ (Heap.get?_push_of_some _ (zH_keep e Ss)))
theorem meets2 (S T : Src) : Meets (Builtin.«zip.__new__» ⟨[.type "zip", .ref S.l, .ref T.l], []⟩) (fun _ R s => S.seq s.heap ∧ T.seq s.heap ∧ R (.ok (.ret (.ref (s.heap.objs.size + 4)))) { s with heap := zEnd s.heap [S, T] }) :=
  .of_wp fun prog w A R s h => by
    obtain ⟨hp, g, d, tk, os⟩ := s; obtain ⟨h1, h2, h⟩ := h
    have hsub := sub_zip
    have hL1 : S.seq (Shared.heap ⟨hp, g, d, tk, os⟩) := h1
    have hL2 : T.seq (Shared.heap ⟨hp.push S.ob, g, d, tk, os⟩) := Src.seq_at h2 fun o e => Heap.get?_push_of_some _ e
    wp_walk using src_iter hL1, src_iter hL2
    simp only [Heap.size_push]
    exact ⟨_, rfl, h⟩
theorem meets3 (S T U : Src) : Meets (Builtin.«zip.__new__» ⟨[.type "zip", .ref S.l, .ref T.l, .ref U.l], []⟩) (fun _ R s => S.seq s.heap ∧ T.seq s.heap ∧ U.seq s.heap ∧ R (.ok (.ret (.ref (s.heap.objs.size + 5)))) { s with heap := zEnd s.heap [S, T, U] }) :=
  .of_wp fun prog w A R s h => by
    obtain ⟨hp, g, d, tk, os⟩ := s; obtain ⟨h1, h2, h3, h⟩ := h
    have hsub := sub_zip
    have hL1 : S.seq (Shared.heap ⟨hp, g, d, tk, os⟩) := h1
    have hL2 : T.seq (Shared.heap ⟨hp.push S.ob, g, d, tk, os⟩) := Src.seq_at h2 fun o e => Heap.get?_push_of_some _ e
    have hL3 : U.seq (Shared.heap ⟨(hp.push S.ob).push T.ob, g, d, tk, os⟩) := Src.seq_at h3 fun o e => Heap.get?_push_of_some _ (Heap.get?_push_of_some _ e)
    wp_walk using src_iter hL1, src_iter hL2, src_iter hL3
    simp only [Heap.size_push]
    exact ⟨_, rfl, h⟩
theorem meets4 (S T U V' : Src) : Meets (Builtin.«zip.__new__» ⟨[.type "zip", .ref S.l, .ref T.l, .ref U.l, .ref V'.l], []⟩) (fun _ R s => S.seq s.heap ∧ T.seq s.heap ∧ U.seq s.heap ∧ V'.seq s.heap ∧ R (.ok (.ret (.ref (s.heap.objs.size + 6)))) { s with heap := zEnd s.heap [S, T, U, V'] }) :=
  .of_wp fun prog w A R s h => by
    obtain ⟨hp, g, d, tk, os⟩ := s; obtain ⟨h1, h2, h3, h4, h⟩ := h
    have hsub := sub_zip
    have hL1 : S.seq (Shared.heap ⟨hp, g, d, tk, os⟩) := h1
    have hL2 : T.seq (Shared.heap ⟨hp.push S.ob, g, d, tk, os⟩) := Src.seq_at h2 fun o e => Heap.get?_push_of_some _ e
    have hL3 : U.seq (Shared.heap ⟨(hp.push S.ob).push T.ob, g, d, tk, os⟩) := Src.seq_at h3 fun o e => Heap.get?_push_of_some _ (Heap.get?_push_of_some _ e)
    have hL4 : V'.seq (Shared.heap ⟨((hp.push S.ob).push T.ob).push U.ob, g, d, tk, os⟩) := Src.seq_at h4 fun o e => Heap.get?_push_of_some _ (Heap.get?_push_of_some _ (Heap.get?_push_of_some _ e))
    wp_walk using src_iter hL1, src_iter hL2, src_iter hL3, src_iter hL4
    simp only [Heap.size_push]
    exact ⟨_, rfl, h⟩
section
variable {prog : Program} {w : World} {A : Around} {E : Value → Shared → Prop} {s : Shared}
theorem call_zipN {Ss : List Src} {Q : Value → Shared → Prop} (hl : Ss.length = 2 ∨ Ss.length = 3 ∨ Ss.length = 4) (hs : ∀ (j : Nat) (S : Src), Ss[j]? = some S → S.seq s.heap)
    (h : ∀ h', ZSt s.heap.objs.size Ss.length 0 Ss h' → (∀ c o, s.heap.get? c = some o → h'.get? c = some o) → Q (.ref (s.heap.objs.size + Ss.length + 2)) { s with heap := h' }) :
    wpAny (model prog w) A (call (.type "zip") (Ss.map fun S => .ref S.l)) Q E s := by
  obtain ⟨z, zk⟩ := zEnd_ok s.heap Ss
  have hT : (zEnd s.heap Ss).get? (s.heap.objs.size + Ss.length + 2) = some _ := z.z
  match Ss, hl with
  | [S, T], _ =>
    refine callType_new PySem.F.called_zip (by decide) (PySem.F.typeCall_zip_2 _ _) (PySem.F.newCall_zip_2 _ _) (fun obj => PySem.F.args_object_init_3 obj _ _) PySem.F.entry_zip_new
      (meets2 S T) ⟨hs 0 S rfl, hs 1 T rfl, ?_⟩
    show _ ∧ _
    exact ⟨⟨_, hT, rfl⟩, h _ z zk⟩
  | [S, T, U], _ =>
    refine callType_new PySem.F.called_zip (by decide) (ZF.typeCall_zip_3 _ _ _) (ZF.newCall_zip_3 _ _ _) (fun obj => ZF.args_object_init_4 obj _ _ _) PySem.F.entry_zip_new
      (meets3 S T U) ⟨hs 0 S rfl, hs 1 T rfl, hs 2 U rfl, ?_⟩
    show _ ∧ _
    exact ⟨⟨_, hT, rfl⟩, h _ z zk⟩
  | [S, T, U, V'], _ =>
    refine callType_new PySem.F.called_zip (by decide) (ZF.typeCall_zip_4 _ _ _ _) (ZF.newCall_zip_4 _ _ _ _) (fun obj => ZF.args_object_init_5 obj _ _ _ _) PySem.F.entry_zip_new
      (meets4 S T U V') ⟨hs 0 S rfl, hs 1 T rfl, hs 2 U rfl, hs 3 V' rfl, ?_⟩
    show _ ∧ _
    exact ⟨⟨_, hT, rfl⟩, h _ z zk⟩
end
/-! ### as an iterable -/
def SqX (K : PySem.W.Frag) (H : Hp) (p : Addr × Bool) (xs : List V) : Prop := match p.2 with | true => SqT K H p.1 xs | false => SqL K H p.1 xs
def ItzN (K : PySem.W.Frag) (as : List (Addr × Bool)) : It :=
  ⟨fun i H => ∀ p ∈ as, ∃ xs x, SqX K H p xs ∧ xs[i]? = some x,
    fun i H v H' => ∃ T vs, v = .ref T ∧ H T = none ∧ H' = upd H T (.tup vs) ∧ vs.length = as.length ∧ ∀ (j : Nat) (p : Addr × Bool) (xs : List V), as[j]? = some p → SqX K H p xs → vs[j]? = xs[i]?,
    fun i H => (∀ p ∈ as, ∃ xs, SqX K H p xs) ∧ ∃ p ∈ as, ∃ xs, SqX K H p xs ∧ xs.length ≤ i⟩
theorem srcs_of {X : Cx} {pins : List (Addr × Obj)} {σ : L2.St} {H : Hp} {s : Shared} (I : Inv X pins σ H s) : ∀ (as : List (Addr × Bool)), (∀ p ∈ as, ∃ xs, SqX X.K H p xs) → ∃ Ss : List Src, as = Ss.map (fun S => (S.l, S.tp)) ∧ ∀ (j : Nat) (S : Src), Ss[j]? = some S → S.seq s.heap ∧ ∀ xs, SqX X.K H (S.l, S.tp) xs → Vals xs S.xs.toList
  | [], _ => ⟨[], rfl, fun j S e => by simp at e⟩
  | (a, tp) :: as, h => by
    obtain ⟨Ss, e, hs⟩ := srcs_of I as fun p hp => h p (List.mem_cons_of_mem _ hp)
    obtain ⟨xs, hx⟩ := h (a, tp) List.mem_cons_self
    cases tp with
    | true =>
      have hx : SqT X.K H a xs := hx
      obtain ⟨its, rv, pl, _⟩ := I.tuple hx
      refine ⟨⟨a, true, its.toArray⟩ :: Ss, by rw [e]; rfl, fun j S ej => ?_⟩
      cases j with
      | zero =>
        simp only [List.getElem?_cons_zero, Option.some.injEq] at ej
        subst ej
        refine ⟨pl, fun ys hy => ?_⟩
        have hy : SqT X.K H a ys := hy
        have := I.tuple_inj hy hx
        subst this
        simpa using rv
      | succ j => exact hs j S (by simpa using ej)
    | false =>
      have hx : SqL X.K H a xs := hx
      obtain ⟨its, rv, pl, _⟩ := I.list hx
      refine ⟨⟨a, false, its.toArray⟩ :: Ss, by rw [e]; rfl, fun j S ej => ?_⟩
      cases j with
      | zero =>
        simp only [List.getElem?_cons_zero, Option.some.injEq] at ej
        subst ej
        refine ⟨pl.isList, fun ys hy => ?_⟩
        have hy : SqL X.K H a ys := hy
        have := I.list_inj hy hx
        subst this
        simpa using rv
      | succ j => exact hs j S (by simpa using ej)
theorem ZSt.swap {b n i : Nat} {Ss Ts : List Src} {h : Heap} (x : ZSt b n i Ss h) (e : Ss.map (fun S => (S.l, S.tp)) = Ts.map (fun S => (S.l, S.tp))) : ZSt b n i Ts h := by
  have hl : Ss.length = Ts.length := by simpa using congrArg List.length e
  refine ⟨by rw [← hl]; exact x.len, x.z, x.ti, x.to, fun j T ej => ?_⟩
  have hj : j < Ss.length := by rw [hl]; exact (List.getElem?_eq_some_iff.mp ej).1
  have q := x.its j Ss[j] (List.getElem?_eq_getElem hj)
  have e2 : (Ss.map (fun S => (S.l, S.tp)))[j]? = (Ts.map (fun S => (S.l, S.tp)))[j]? := by rw [e]
  rw [List.getElem?_map, List.getElem?_map, ej, List.getElem?_eq_getElem hj] at e2
  simp only [Option.map_some, Option.some.injEq, Prod.mk.injEq] at e2
  unfold Src.itr at q ⊢
  rw [e2.1, e2.2] at q
  exact q
theorem vals_col {i : Nat} : ∀ {Ss : List Src} {us : List Value}, us.length = Ss.length → (∀ (j : Nat) (S : Src), Ss[j]? = some S → us[j]? = S.xs[i]? ∧ ∃ xs : List V, Vals xs S.xs.toList ∧ ∃ x, xs[i]? = some x) →
    ∃ vs, Vals vs us ∧ ∀ (j : Nat) (S : Src) (xs : List V), Ss[j]? = some S → Vals xs S.xs.toList → vs[j]? = xs[i]?
  | [], us, hl, _ => by
    have : us = [] := List.length_eq_zero_iff.mp (by simpa using hl)
    subst this
    exact ⟨[], .nil, fun j S xs e => by simp at e⟩
  | S :: Ss, [], hl, _ => by simp at hl
  | S :: Ss, u :: us, hl, h => by
    obtain ⟨vs, rv, hv⟩ := vals_col (Ss := Ss) (us := us) (by simpa using hl) fun j T e => by
      have q := h (j + 1) T (by simpa using e)
      simpa using q
    obtain ⟨eu, xs, rx, x, ex⟩ := h 0 S rfl
    simp only [List.getElem?_cons_zero] at eu
    obtain ⟨u', eu', ru⟩ := rx.get ex
    rw [Array.getElem?_toList, ← eu] at eu'
    cases eu'
    refine ⟨x :: vs, .cons ru rv, fun j T ys e ry => ?_⟩
    cases j with
    | zero =>
      simp only [List.getElem?_cons_zero, Option.some.injEq] at e
      subst e
      have := Vals.inj ry rx
      subst this
      rw [ex]; rfl
    | succ j => simpa using hv j T ys (by simpa using e) ry
def zFp (b n : Nat) : List Nat := (List.range (n + 3)).map fun k => b + k
theorem mem_zFp {b n c : Nat} : c ∈ zFp b n ↔ b ≤ c ∧ c < b + n + 3 := by
  unfold zFp
  constructor
  · intro h
    obtain ⟨k, hk, e⟩ := List.mem_map.mp h
    have := List.mem_range.mp hk
    have e : b + k = c := e
    have h3 : k < n + 3 := this
    omega
  · intro h
    exact List.mem_map.mpr ⟨c - b, List.mem_range.mpr (by omega), by show b + (c - b) = c; omega⟩
theorem bsub2 {b c n m : Nat} (e : m = n) (h : b ≤ c) (h1 : c < b + n) : c - b < m := by omega
theorem bsub {b c : Nat} (h : b ≤ c) : b + (c - b) = c := by omega
theorem last3 {b n c : Nat} (h2 : c < b + n + 3) (a : ¬ c < b + n) (d : ¬ c = b + n) (e : ¬ c = b + n + 1) : c = b + n + 2 := by omega
theorem out3 {b n c : Nat} (h : ¬ (b ≤ c ∧ c < b + n + 3)) : c < b ∨ b + n + 2 < c := by omega
theorem ne2 {b n c : Nat} (h : c < b ∨ b + n + 2 < c) : c ≠ b + n + 2 := by omega
theorem lt3 {b n c m : Nat} (h : c < b + n + 3) (hz : b + n + 2 < m) : c < m := by omega
theorem turn_zipN {P : Program} {w : World} {K : PySem.W.Frag} {elts : List Expr} {kk : Nat} {tpos : Pos} {b n : Nat} {as : List (Addr × Bool)} (hn : n < 100) (hn0 : 0 < n) (hb : ∀ p ∈ as, p.1 < b) :
    Turn P w K (.Tuple elts kk tpos) (ItzN K as) (zFp b n) (b + n + 2) (fun i h => ∃ Ss : List Src, as = Ss.map (fun S => (S.l, S.tp)) ∧ ZSt b n i Ss h) where
  mem := mem_zFp.mpr ⟨by omega, by omega⟩
  obj := fun i h ⟨Ss, _, st⟩ c hc => by
    obtain ⟨c1, c2⟩ := mem_zFp.mp hc
    obtain ⟨arr, hTO, _⟩ := st.to
    by_cases h1 : (c : Nat) < b + n
    · have hj : (c : Nat) - b < Ss.length := bsub2 st.len c1 h1
      have q := st.its (c - b) _ (List.getElem?_eq_getElem hj)
      rw [bsub c1] at q
      exact Src.itr_ob q
    · by_cases h2 : (c : Nat) = b + n
      · rw [h2]; exact ⟨_, st.ti, fun v q => nomatch q⟩
      · by_cases h3 : (c : Nat) = b + n + 1
        · rw [h3]; exact ⟨_, hTO, fun v q => nomatch q⟩
        · rw [last3 c2 h1 h2 h3]; exact ⟨_, st.z, fun v q => nomatch q⟩
  keep := fun i h h' ⟨Ss, e, st⟩ k => by
    obtain ⟨arr, hTO, hz⟩ := st.to
    refine ⟨Ss, e, st.len, k _ (mem_zFp.mpr ⟨by omega, by omega⟩) _ st.z, k _ (mem_zFp.mpr ⟨by omega, by omega⟩) _ st.ti, ⟨arr, k _ (mem_zFp.mpr ⟨by omega, by omega⟩) _ hTO, hz⟩, fun j S ej => ?_⟩
    have hj := (List.getElem?_eq_some_iff.mp ej).1
    have := st.len
    exact Src.itr_at (st.its j S ej) fun o q => k _ (mem_zFp.mpr ⟨by omega, by omega⟩) o q
  item := by
    intro X hP hw hK hc i pins s σ H E I hf ⟨Ss0, e0, st0⟩ hg
    subst hP hw hK
    obtain ⟨Ss, e, hs⟩ := srcs_of I as fun p hp => let ⟨xs, _, h, _⟩ := hg p hp; ⟨xs, h⟩
    have st := st0.swap (Ts := Ss) (by rw [← e0, e])
    have hl := st.len
    have key : ∀ (j : Nat) (S : Src), Ss[j]? = some S → (S.l, S.tp) ∈ as := fun j S ej => by
      rw [e]; exact List.mem_map.mpr ⟨S, List.mem_of_getElem? ej, rfl⟩
    have hsq : ∀ (j : Nat) (S : Src), Ss[j]? = some S → S.seq s.heap ∧ S.l < b := fun j S ej => ⟨(hs j S ej).1, hb _ (key j S ej)⟩
    have hvs : ∀ (j : Nat) (S : Src), Ss[j]? = some S → ∃ xs : List V, SqX X.K H (S.l, S.tp) xs ∧ Vals xs S.xs.toList ∧ ∃ x, xs[i]? = some x := fun j S ej => by
      obtain ⟨xs, x, h1, h2⟩ := hg _ (key j S ej)
      exact ⟨xs, h1, (hs j S ej).2 xs h1, x, h2⟩
    have hxs : ∀ (j : Nat) (S : Src), Ss[j]? = some S → ∃ v, S.xs[i]? = some v := fun j S ej => by
      obtain ⟨xs, _, rv, x, ex⟩ := hvs j S ej
      obtain ⟨u, eu, _⟩ := rv.get ex
      exact ⟨u, by rw [← Array.getElem?_toList]; exact eu⟩
    have hzl : b + n + 2 < s.heap.objs.size := Heap.lt_size st.z
    unfold pyNext
    have hT : s.TypeIs (.ref (b + n + 2)) "zip" := ⟨_, st.z, rfl⟩
    refine wpAny_bind (wpAny_attempt (wpAny_callSpecial?_slot (name := Str.ofString "__next__") hT PySem.F.slot_zip_next (wpAny_call_entry PySem.F.slot_zip_next hT PySem.F.entry_zip_next
      (zip_next_itemN hn hn0 st hsq hxs fun h' arr a1 a2 a3 a4 a5 a6 a7 a8 => wpAny_pure ?_) (PySem.F.args_zip_next_1 _))))
    refine ⟨_, rfl, wpAny_letOwnedTupleGo_zip (s := { s with heap := h' }) a4 fun h'' z'' sb => ?_⟩
    have hT2 : h''.get? s.heap.objs.size = some { cls := .type "tuple", data := .seq arr } := (sb.2 _ (Nat.ne_of_gt hzl)).trans a3
    obtain ⟨vs, rvs, hcol⟩ := vals_col (i := i) (Ss := Ss) (us := arr.toList) (by rw [Array.length_toList, a1, hl]) fun j S ej => by
      refine ⟨by rw [Array.getElem?_toList]; exact a2 j S ej, ?_⟩
      obtain ⟨xs, _, h2⟩ := hvs j S ej
      exact ⟨xs, h2⟩
    have hlv : vs.length = n := by rw [rvs.length, Array.length_toList, a1]
    have new : ObjOk X.prog X.w (upd H s.heap.objs.size (.tup vs)) h'' s.heap.objs.size (.tup vs) :=
      ⟨by rw [hlv, sizeLine_eq]; omega, arr.toList, rvs, ⟨_, hT2, rfl, 0, by simp⟩⟩
    have out : ∀ c : Nat, c ∉ zFp b n → c < b ∨ b + n + 2 < c := fun c hc => by
      exact out3 fun z => hc (mem_zFp.mpr z)
    have I1 : Inv X pins σ (upd H s.heap.objs.size (.tup vs)) { s with heap := h'' } :=
      I.turnedNew (t' := s.toks) (ch := zFp b n) (fun c o hb' q => (sb.2 c (ne2 (out c hb'))).trans (a8 c o (out c hb') q)) hf (Nat.le_refl _) new
    refine ⟨.ref s.heap.objs.size, _, I1, rfl, ⟨_, vs, rfl, I.hok.fresh (Nat.le_refl _), rfl, by rw [hlv, e, List.length_map, hl], fun j p xs ej hx => ?_⟩, ⟨Ss, e, hl, z'', ?_, ⟨arr, ?_, a1⟩, fun j S ej => ?_⟩, fun c hcm => ?_⟩
    · rw [e, List.getElem?_map] at ej
      cases eS : Ss[j]? with
      | none => rw [eS] at ej; cases ej
      | some S =>
        rw [eS] at ej
        cases ej
        exact hcol j S xs eS ((hs j S eS).2 xs hx)
    · exact (sb.2 _ (nq (by omega))).trans a5
    · exact (sb.2 _ (nq (by omega))).trans a6
    · have hj := (List.getElem?_eq_some_iff.mp ej).1
      exact Src.itr_at (a7 j S ej) fun o q => (sb.2 _ (nq (by omega))).trans q
    · obtain ⟨c1, c2⟩ := mem_zFp.mp hcm
      rw [upd_ne (Nat.ne_of_lt (lt3 c2 hzl))]
      exact (hf c hcm).1
  done := by
    intro X hP hw hK hc i pins s σ H E I hf ⟨Ss0, e0, st0⟩ ⟨hg, p0, hp0, xs0, hx0, hl0⟩
    subst hP hw hK
    obtain ⟨Ss, e, hs⟩ := srcs_of I as hg
    have st := st0.swap (Ts := Ss) (by rw [← e0, e])
    have key : ∀ (j : Nat) (S : Src), Ss[j]? = some S → (S.l, S.tp) ∈ as := fun j S ej => by
      rw [e]; exact List.mem_map.mpr ⟨S, List.mem_of_getElem? ej, rfl⟩
    have hsq : ∀ (j : Nat) (S : Src), Ss[j]? = some S → S.seq s.heap ∧ S.l < b := fun j S ej => ⟨(hs j S ej).1, hb _ (key j S ej)⟩
    have hend : ∃ (j : Nat) (S : Src), Ss[j]? = some S ∧ S.xs[i]? = none := by
      rw [e] at hp0
      obtain ⟨S, hS, rfl⟩ := List.mem_map.mp hp0
      obtain ⟨j, hj, ej⟩ := List.mem_iff_getElem.mp hS
      have ej' : Ss[j]? = some S := by rw [List.getElem?_eq_getElem hj, ej]
      refine ⟨j, S, ej', ?_⟩
      have rl := ((hs j S ej').2 xs0 hx0).length
      rw [← Array.getElem?_toList]
      exact List.getElem?_eq_none (by omega)
    unfold pyNext
    have hT : s.TypeIs (.ref (b + n + 2)) "zip" := ⟨_, st.z, rfl⟩
    refine wpAny_bind (wpAny_attempt (wpAny_callSpecial?_slot (name := Str.ofString "__next__") hT PySem.F.slot_zip_next (wpAny_call_entry PySem.F.slot_zip_next hT PySem.F.entry_zip_next
      (zip_next_endN (I.ok.hd hc) hn hn0 st hsq hend fun h' e' hk he => ?_) (PySem.F.args_zip_next_1 _))))
    obtain ⟨o, ho, hco⟩ := he
    refine wpAny_bind (wpAny_isInstance (T := "StopIteration") (b := true) ⟨o, ho, hco⟩ isSubtype_stop ?_)
    refine wpAny_pure ⟨rfl, I.turnedL (t' := s.toks) (ch := zFp b n) (fun c o hb' q => hk c o ?_ q) hf⟩
    exact out3 fun z => hb' (mem_zFp.mpr z)
  self := fun A i s Q E ⟨Ss, _, st⟩ h => wpAny_pyIter_zip st.z h
end Wk

set_option Elab.async false
set_option linter.all false
set_option maxRecDepth 100000
set_option maxHeartbeats 2000000
namespace Wk
open PySem PySem.Spec L2
def minLen : List (List D) → Nat
  | [] => 0
  | [l] => l.length
  | l :: ls => min l.length (minLen ls)
/-- the columns -/
def zipD (ls : List (List D)) : List D := (List.range (minLen ls)).map fun (i : Nat) => .tup (ls.map fun l => (l[i]?).getD .non)
def seqsOf : List D → Option (List (List D))
  | [] => some []
  | d :: ds => match seqOf d, seqsOf ds with
    | some l, some ls => some (l :: ls)
    | _, _ => none
def cZip (g : SmL) : SmI := fun ρ W =>
  match g ρ W with
  | none => none
  | some (.exc c W') => some (.exc c W')
  | some (.vals l W') => match shs l with
    | none => none
    | some ds => (seqsOf ds).map fun ls => .its (zipD ls) W'
theorem minLen_le : ∀ {ls : List (List D)} {l : List D}, l ∈ ls → minLen ls ≤ l.length
  | [l0], l, h => by
    have : l = l0 := by simpa using h
    subst this; exact Nat.le_refl _
  | l0 :: l1 :: ls, l, h => by
    show min l0.length (minLen (l1 :: ls)) ≤ _
    rcases List.mem_cons.mp h with rfl | h
    · exact Nat.min_le_left _ _
    · exact Nat.le_trans (Nat.min_le_right _ _) (minLen_le h)
theorem minLen_at : ∀ {ls : List (List D)}, ls ≠ [] → ∃ l ∈ ls, l.length = minLen ls
  | [], h => absurd rfl h
  | [l0], _ => ⟨l0, by simp, rfl⟩
  | l0 :: l1 :: ls, _ => by
    obtain ⟨l, hl, e⟩ := @minLen_at (l1 :: ls) (by simp)
    by_cases h : l0.length ≤ minLen (l1 :: ls)
    · exact ⟨l0, by simp, by show _ = min _ _; omega⟩
    · exact ⟨l, List.mem_cons_of_mem _ hl, by show _ = min _ _; omega⟩
section
variable {F : Fx} {X : Cx} {Wx : WX}
/-- the sources hold the lists -/
def SrcOk (K : PySem.W.Frag) (r : Option Addr) (Z : Addr → Prop) (H : Hp) : List (List D) → List (Addr × Bool) → Prop
  | [], as => as = []
  | l :: ls, as => ∃ p t vs, as = p :: t ∧ SqX K H p vs ∧ RepL K r Z H l vs ∧ (p.2 = false → Z p.1 ∧ H p.1 = some (.lst vs)) ∧ SrcOk K r Z H ls t
theorem SrcOk.stay {K : PySem.W.Frag} {r r' : Option Addr} {Z Z' : Addr → Prop} {H H' : Hp} (st : Stay Z H H') (hz : ∀ b, Z b → Z' b) (hr : ∀ a, r = some a → r' = some a) : ∀ {ls : List (List D)} {as : List (Addr × Bool)}, SrcOk K r Z H ls as → SrcOk K r' Z' H' ls as
  | [], _, h => h
  | l :: ls, _, ⟨p, t, vs, e, h1, h2, h3, h4⟩ => by
    refine ⟨p, t, vs, e, ?_, h2.stay st hz hr, fun q => ⟨hz _ (h3 q).1, st _ _ (h3 q).2 (.inl (h3 q).1)⟩, SrcOk.stay st hz hr h4⟩
    obtain ⟨a, tp⟩ := p
    cases tp with
    | true => exact sqT_stay (Z := Z) st h1
    | false => exact .inl (.inl (st _ _ (h3 rfl).2 (.inl (h3 rfl).1)))
theorem SrcOk.mem {K : PySem.W.Frag} {r : Option Addr} {Z : Addr → Prop} {H : Hp} : ∀ {ls : List (List D)} {as : List (Addr × Bool)} {p : Addr × Bool}, SrcOk K r Z H ls as → p ∈ as → ∃ l ∈ ls, ∃ vs, SqX K H p vs ∧ RepL K r Z H l vs
  | [], _, p, h, hp => by cases h; cases hp
  | l :: ls, _, p, ⟨q, t, vs, e, h1, h2, h3, h4⟩, hp => by
    subst e
    rcases List.mem_cons.mp hp with rfl | hp
    · exact ⟨l, List.mem_cons_self, vs, h1, h2⟩
    · obtain ⟨l', hl, r⟩ := SrcOk.mem h4 hp
      exact ⟨l', List.mem_cons_of_mem _ hl, r⟩
theorem SrcOk.memL {K : PySem.W.Frag} {r : Option Addr} {Z : Addr → Prop} {H : Hp} : ∀ {ls : List (List D)} {as : List (Addr × Bool)} {l : List D}, SrcOk K r Z H ls as → l ∈ ls → ∃ p ∈ as, ∃ vs, SqX K H p vs ∧ RepL K r Z H l vs
  | [], _, p, h, hp => by cases hp
  | l :: ls, _, p, ⟨q, t, vs, e, h1, h2, h3, h4⟩, hp => by
    subst e
    rcases List.mem_cons.mp hp with rfl | hp
    · exact ⟨q, List.mem_cons_self, vs, h1, h2⟩
    · obtain ⟨l', hl, r⟩ := SrcOk.memL h4 hp
      exact ⟨l', List.mem_cons_of_mem _ hl, r⟩
theorem SrcOk.col {K : PySem.W.Frag} {r : Option Addr} {Z : Addr → Prop} {H : Hp} {i : Nat} : ∀ {ls : List (List D)} {as : List (Addr × Bool)} {us : List V}, SrcOk K r Z H ls as → us.length = as.length → (∀ l ∈ ls, i < l.length) → (∀ (j : Nat) (p : Addr × Bool) (xs : List V), as[j]? = some p → SqX K H p xs → us[j]? = xs[i]?) → RepL K r Z H (ls.map fun l => (l[i]?).getD .non) us
  | [], _, us, h, hl, _, _ => by
    cases h
    have : us = [] := List.length_eq_zero_iff.mp hl
    subst this
    exact RepL.nil
  | l :: ls, _, us, ⟨p, t, vs, e, h1, h2, h3, h4⟩, hl, hi, hc => by
    subst e
    cases us with
    | nil => simp at hl
    | cons u us =>
      have q := hc 0 p vs rfl h1
      simp only [List.getElem?_cons_zero] at q
      obtain ⟨d, ed, rd⟩ := h2.getV q.symm
      rw [List.map_cons]
      refine RepL.cons ?_ (SrcOk.col h4 (by simpa using hl) (fun l' hl' => hi l' (List.mem_cons_of_mem _ hl')) fun j p' xs ej hx => by simpa using hc (j + 1) p' xs (by simpa using ej) hx)
      rw [ed]
      exact rd
theorem wlk_zip {r : Option Addr} {Z : Addr → Prop} {H : Hp} {ls : List (List D)} {as : List (Addr × Bool)} (hne : ls ≠ []) (h : SrcOk F.K r Z H ls as) : Wlk F r Z H (ItzN F.K as) (zipD ls) := by
  intro H2 st
  have h2 := h.stay st (fun _ z => z) fun _ e => e
  have hlen : (zipD ls).length = minLen ls := by simp [zipD]
  refine ⟨fun i hi p hp => ?_, fun i hi => ⟨fun p hp => ?_, ?_⟩, fun i x H3 y => ?_⟩
  · obtain ⟨l, hl, vs, q, rl⟩ := h2.mem hp
    have := minLen_le hl
    have hv := rl.length
    exact ⟨vs, _, q, List.getElem?_eq_getElem (by omega)⟩
  · obtain ⟨l, hl, vs, q, rl⟩ := h2.mem hp
    exact ⟨vs, q⟩
  · obtain ⟨l, hl, e⟩ := minLen_at hne
    obtain ⟨p, hp, vs, q, rl⟩ := h2.memL hl
    have hv := rl.length
    exact ⟨p, hp, vs, q, by omega⟩
  · obtain ⟨T, vs, rfl, nT, rfl, hl, hc⟩ := y
    refine ⟨.inr ⟨T, _, nT, rfl⟩, fun d ed r' Z2 hz hr => ?_⟩
    have hi : i < minLen ls := by
      have := (List.getElem?_eq_some_iff.mp ed).1
      omega
    have ed' : d = .tup (ls.map fun l => (l[i]?).getD .non) := by
      unfold zipD at ed
      rw [List.getElem?_map, List.getElem?_range hi] at ed
      exact (Option.some.inj ed).symm
    subst ed'
    simp only [Rep]
    have st3 : Stay Z H2 (upd H2 T (.tup vs)) := fun b o e _ => by rw [upd_ne (ne_of_none e nT)]; exact e
    exact ⟨T, vs, rfl, .inl (.inl upd_same), (h2.col hl (fun l hl' => Nat.lt_of_lt_of_le hi (minLen_le hl')) hc).stay st3 hz hr⟩
theorem src_mk (hK : X.K = F.K) {r : Option Addr} {Z : Addr → Prop} {H : Hp} : ∀ {ds : List D} {vs : List V} {ls : List (List D)}, RepL F.K r Z H ds vs → seqsOf ds = some ls → ∃ as : List (Addr × Bool), vs = as.map (fun p => V.ref p.1) ∧ SrcOk F.K r Z H ls as ∧ ls.length = ds.length
  | [], vs, ls, h, e => by
    simp only [RepL] at h
    cases e
    exact ⟨[], h, rfl, rfl⟩
  | d :: ds, vs, ls, h, e => by
    simp only [RepL] at h
    obtain ⟨v, t, rfl, q, rl⟩ := h
    unfold seqsOf at e
    cases e1 : seqOf d with
    | none => rw [e1] at e; cases e
    | some l =>
      cases e2 : seqsOf ds with
      | none => rw [e1, e2] at e; cases e
      | some ls' =>
        rw [e1, e2] at e
        cases e
        obtain ⟨as, ha, hs, hl⟩ := src_mk hK rl e2
        cases d with
        | tup l' =>
          cases e1
          simp only [Rep] at q
          obtain ⟨a, us, rfl, ht, ru⟩ := q
          exact ⟨(a, true) :: as, by rw [ha]; rfl, ⟨(a, true), as, us, rfl, ht, ru, (fun z => nomatch z), hs⟩, by simp [hl]⟩
        | lst l' =>
          cases e1
          simp only [Rep] at q
          obtain ⟨a, us, rfl, hz, ht, ru⟩ := q
          exact ⟨(a, false) :: as, by rw [ha]; rfl, ⟨(a, false), as, us, rfl, .inl (.inl ht), ru, fun _ => ⟨hz, ht⟩, hs⟩, by simp [hl]⟩
        | _ => cases e1
theorem pI_zip {e : Expr} {es : List Expr} {g : SmL} {p pos tpos : Pos} {elts : List Expr} {kk : Nat} (hK : X.K = F.K) (hn : es.length = 1 ∨ es.length = 2 ∨ es.length = 3) (hg : Gl X "zip") (hm : X.mg "zip" = none) (ha : PA X (e :: es) (tA F Wx g)) (hgl : ∀ ρ W l W', g ρ W = some (.vals l W') → l.length = es.length + 1)
    (hs : starEach (e :: es) X.env = (false, eval e X.env) :: starEach es X.env) (hpl : (backTo pos (starEach es X.env)).any (·.1) = false) :
    PI X (.Tuple elts kk tpos) (.Call (.Name "zip" p) (e :: es) [] pos) (tI F Wx (cZip g)) := by
  refine ⟨fun pins s0 σ H R I ⟨r, Z, ρ, W, s, h⟩ => ?_⟩
  refine PyProof.Rows.Call_ (ld_blt I hg hm PyProof.Rows.boot_zip (PyProof.Rows.callWith_type1 (thn (ha.run pos pins s0 σ H (fun vs H1 => ∃ Z1 ls as W1, EPost F r Z Z1 σ H H1 ρ W1 ∧ vs = as.map (fun p : Addr × Bool => V.ref p.1) ∧ SrcOk F.K r Z1 H1 ls as ∧ ls.length = es.length + 1 ∧ R (ItzN F.K as) H1) I ⟨r, Z, ρ, W, s, ?_⟩) fun us s1 ⟨vs, H1, I1, r1, q1⟩ => ?_) hs hpl))
  · unfold cZip at h
    cases e1 : g ρ W with
    | none => rw [e1] at h; exact h
    | some o =>
      rw [e1] at h
      cases o with
      | exc c W' => exact h
      | vals l W' =>
        intro vs H' Z' p q _
        dsimp only at h
        cases e2 : shs l with
        | none => rw [e2] at h; exact h.elim
        | some ds =>
          rw [e2] at h
          dsimp only at h
          cases e3 : seqsOf ds with
          | none => rw [e3] at h; exact h.elim
          | some ls =>
            rw [e3] at h
            have rl := q.shs e2
            obtain ⟨as, hv, hso, hl⟩ := src_mk hK rl e3
            have hld : ds.length = l.length := by
              have : ∀ {l : List (D × Kd)} {ds : List D}, shs l = some ds → ds.length = l.length := by
                intro l
                induction l with
                | nil => intro ds e; cases e; rfl
                | cons p l ih =>
                  intro ds e
                  obtain ⟨d, k⟩ := p
                  cases k with
                  | sh =>
                    simp only [shs, Option.map_eq_some_iff] at e
                    obtain ⟨ds', e', rfl⟩ := e
                    simp [ih e']
                  | bo => cases e
                  | fr => cases e
              exact this e2
            have hle := hgl _ _ _ _ e1
            exact ⟨Z', ls, as, W', p, hv, hso, by omega, h _ H' Z' p (wlk_zip (by intro z; rw [z] at hl; simp at hl; omega) hso)⟩
  · obtain ⟨Z1, ls, as, W1, p1, ev, hso, hll, q⟩ := q1
    have hlen : as.length = es.length + 1 := by
      have : ∀ {ls : List (List D)} {as : List (Addr × Bool)}, SrcOk F.K r Z1 H1 ls as → as.length = ls.length := by
        intro ls
        induction ls with
        | nil => intro as h; cases h; rfl
        | cons l ls ih => intro as ⟨p, t, vs, e, _, _, _, h4⟩; subst e; simp [ih h4]
      rw [this hso, hll]
    obtain ⟨Ss, eSs, hS⟩ := srcs_of I1 as fun p hp => by
      obtain ⟨l, _, vs, q, _⟩ := hso.mem hp
      exact ⟨vs, by rw [hK]; exact q⟩
    have hus : us = Ss.map fun S => Value.ref S.l := by
      subst ev
      rw [eSs] at r1
      have : ∀ {Ss : List Src} {us : List Value}, Vals ((Ss.map fun S => (S.l, S.tp)).map fun p : Addr × Bool => V.ref p.1) us → us = Ss.map fun S => Value.ref S.l := by
        intro Ss
        induction Ss with
        | nil => intro us h; cases h; rfl
        | cons S Ss ih =>
          intro us h
          cases h with
          | cons r rr =>
            cases r
            rw [ih rr]
            rfl
      exact this r1
    have hSl : Ss.length = as.length := by rw [eSs, List.length_map]
    subst hus
    refine call_zipN (Ss := Ss) (by omega) (fun j S ej => (hS j S ej).1) fun h' zst hk => wpAny_pyIter_zip zst.z ?_
    have I2 : Inv X pins σ H1 { s1 with heap := h' } := I1.kept (t' := s1.toks) hk
    refine ⟨s1.heap.objs.size + Ss.length + 2, zFp s1.heap.objs.size Ss.length, _, ItzN X.K as, H1, rfl, I2, turn_zipN (b := s1.heap.objs.size) (n := Ss.length) (as := as) (by omega) (by omega) (fun p hp => ?_), ⟨Ss, eSs, zst⟩, fun c hc => ?_, by rw [hK]; exact q⟩
    · rw [eSs] at hp
      obtain ⟨S, hS', rfl⟩ := List.mem_map.mp hp
      obtain ⟨j, hj, ej⟩ := List.mem_iff_getElem.mp hS'
      have := (hS j S (by rw [List.getElem?_eq_getElem hj, ej])).1
      obtain ⟨l, tp, xs⟩ := S
      cases tp with
      | true => obtain ⟨o, e, _⟩ := this; exact Heap.lt_size e
      | false => obtain ⟨o, e, _⟩ := this; exact Heap.lt_size e
    · obtain ⟨c1, c2⟩ := mem_zFp.mp hc
      exact I1.fpOk c1 (I1.hok.fresh c1)
end
end Wk

set_option Elab.async false
set_option linter.all false
set_option maxRecDepth 100000
set_option maxHeartbeats 4000000
/-! # From the text to its meaning: expressions -/
namespace Wk
open PySem PySem.Spec L2

/-! ### chains -/
section
variable {F : Fx} {X : Cx} {Wx : WX} {e1 e2 e3 : Expr} {f1 f2 f3 : Sm} {pos : Pos}
theorem EvAt.cval {r : Option Addr} {Z : Addr → Prop} {σ : St} {H : Hp} {ρ : Env'} {W : Ro} {Q : VK} {p : Ro → Option (D × Kd)} {k : D → Kd → Sm} (h : EvAt F Wx r Z σ H ρ Q (cBind (fun ρ W => cVal (p W) ρ W) k ρ W)) : ∃ z kz, p W = some (z, kz) ∧ EvAt F Wx r Z σ H ρ Q (k z kz ρ W) := by
  unfold cBind cVal at h
  cases e : p W with
  | none => simp only [e] at h; exact h.elim
  | some q => simp only [e] at h; exact ⟨q.1, q.2, rfl, h⟩
theorem tE_chain {rr rr' : R2} {p q : Ro → D → D → Option (D × Kd)} (hp : Prim2 F rr p) (hq : Prim2 F rr' q) {σ : St} {H : Hp} {Q : VK} (h : tE F Wx (cChain p q f1 f2 f3) σ H Q) : tChain rr rr' (tE F Wx f1) (tE F Wx f2) (tE F Wx f3) σ H Q := by
  obtain ⟨r, Z, ρ, W, s, h⟩ := h
  refine tE_mono (tE_bind s h) fun v H1 ⟨Z1, d, kd, W1, p1, q1, _, h⟩ => ?_
  refine tE_mono (tE_bind p1.sim h) fun u H2 ⟨Z2, e, ke, W2, p2, q2, _, h⟩ => ?_
  have q1' := q1.later p2 p1.sim
  obtain ⟨z, kz, ez, h⟩ := EvAt.cval (p := fun W => p W d e) h
  · refine hp p2.sim q1' q2 ez fun x H3 Z3 p3 q3 _ => ?_
    cases z with
    | bl b =>
      have hx := q3.bl
      refine ⟨b, hx, ?_⟩
      have h := EvAt.later p2.sim p3 h
      cases b with
      | true =>
        rw [if_pos rfl]
        refine tE_mono (tE_bind p3.sim h) fun w H4 ⟨Z4, z, kz2, W4, p4, q4, _, h⟩ => ?_
        obtain ⟨d', k', e', h⟩ := EvAt.val (d := .non) (k := .sh) h
        exact hq p4.sim ((q2.later p3 p2.sim).later p4 p3.sim) q4 e' h
      | false =>
        rw [if_neg Bool.false_ne_true]
        exact h _ H3 Z3 (EPost.refl p3.sim) (by simp [RepK, Rep]) fun z => nomatch z
    | _ => exact h.elim
theorem pE_chain {op op' : CmpOp} {rr rr' : R2} {p q : Ro → D → D → Option (D × Kd)} (ho : OpR X (compareOp op) rr) (ho' : OpR X (compareOp op') rr') (hp : Prim2 F rr p) (hq : Prim2 F rr' q) (h1 : PE X e1 (tE F Wx f1)) (h2 : PE X e2 (tE F Wx f2)) (h3 : PE X e3 (tE F Wx f3)) (hm : lastMarks [op, op'] [e2, e3] = false) :
    PE X (.Compare e1 [op, op'] [e2, e3] pos) (tE F Wx (cChain p q f1 f2 f3)) := PE.imp (pe_chain ho ho' h1 h2 h3 hm) fun _ _ _ h => tE_chain hp hq h
theorem pT_chain {op op' : CmpOp} {rr rr' : R2} {p q : Ro → D → D → Option (D × Kd)} (ho : OpR X (compareOp op) rr) (ho' : OpR X (compareOp op') rr') (hp : Prim2 F rr p) (hq : Prim2 F rr' q) (h1 : PE X e1 (tE F Wx f1)) (h2 : PE X e2 (tE F Wx f2)) (h3 : PE X e3 (tE F Wx f3)) (hm : lastMarks [op, op'] [e2, e3] = false) :
    PT X (.Compare e1 [op, op'] [e2, e3] pos) (tT F Wx (cChain p q f1 f2 f3)) := PT.imp (pt_chain ho ho' h1 h2 h3 hm) fun _ _ _ h => tE_chain hp hq (tE_of_tT h)
end

/-! ### the context -/
structure Cfg where
  N : List Str
  sc : Scope
  fn : Str → Bool
  calm : Bool
  fns : List (Str × Nat × Fn)
  gls : List (Str × D)
  bl : List Str
  gcd : Bool
structure XOk (k : Nat) (c : Cfg) (F : Fx) (Wx : WX) (X : Cx) : Prop where
  N : X.N = c.N
  nd : c.N.Nodup
  sc : X.env.scope = c.sc
  kind : c.sc.kind = .function
  fn : ∀ x, c.fn x = true → X.fn x = true
  calm : c.calm = true → X.calm = true
  K : X.K = F.K
  mg : X.mg = F.mg
  tk : Takes X Wx
  un : X.A.units + 65 < cLine
  room : c.calm = true → Room k X.A
  fns : ∀ x n f, c.fns.lookup x = some (n, f) → ∃ a fd ps, FnOk X.prog X.w X.K X.mg X.base (L2.CX X.prog X.w) k a fd ps (spV X.K X.mg n f) ∧ X.mg x = some (.ref a) ∧ PySem.W.keepIn X.K (.ref a) = true ∧ Binds X.K fd ps []
  gls : ∀ x d, c.gls.lookup x = some d → ∃ u v, X.mg x = some u ∧ RelV v u ∧ ∀ r Z H, Rep F.K r Z H d v
  bl : ∀ x, x ∈ c.bl → X.mg x = none
  gcd : c.gcd = true → X.mg "gcd" = some (.builtin "math.gcd")

/-! ### tables -/
def opSem : Operator → Option (Ro → D → D → Option (D × Kd))
  | .Add => some pAdd
  | .Sub => some (i2 fun a b => some (a - b))
  | .Mult => some pMul
  | .FloorDiv => some (i2 gDiv)
  | .Mod => some (i2 gMod)
  | .Pow => some (i2 gPow)
  | _ => none
def cmpSem : CmpOp → Option (Ro → D → D → Option (D × Kd))
  | .Lt => some (b2 fun i j => decide (i < j))
  | .LtE => some (b2 fun i j => decide (i ≤ j))
  | .Gt => some (b2 fun i j => decide (j < i))
  | .GtE => some (b2 fun i j => decide (j ≤ i))
  | .Eq => some (pEq false)
  | .NotEq => some (pEq true)
  | .Is => some (pIsN false)
  | .IsNot => some (pIsN true)
  | .In => some (pIn false)
  | .NotIn => some (pIn true)
def bltS : List (Str × (List D → Option (D × Kd))) := [("len", pLen), ("isinstance", pIsi), ("tuple", pTuple), ("list", pList), ("int", pInt), ("max", pMax), ("min", pMin), ("all", pAll), ("any", pAny)]
def tyS : List (Str × String) := [("int", "int"), ("bool", "bool"), ("tuple", "tuple"), ("str", "str"), ("list", "list"), ("dict", "dict")]
section
variable {F : Fx} {X : Cx} {Wx : WX} {k : Nat} {c : Cfg}
theorem op_ok {op : Operator} {p : Ro → D → D → Option (D × Kd)} (hK : X.K = F.K) (h : opSem op = some p) : ∃ rr, OpR X (binaryOp op) rr ∧ Prim2 F rr p := by
  cases op <;> simp only [opSem, Option.some.injEq, reduceCtorEq] at h <;> subst h
  · exact ⟨_, op_addAll, hK ▸ prim_add⟩
  · exact ⟨_, op_sub, prim_sub⟩
  · exact ⟨_, op_mulAll, prim_mul⟩
  · exact ⟨_, op_modN, prim_mod⟩
  · exact ⟨_, op_pow, prim_pow⟩
  · exact ⟨_, op_fdivG, prim_div⟩
theorem cmp_ok {op : CmpOp} {p : Ro → D → D → Option (D × Kd)} (hK : X.K = F.K) (hu : X.A.units + 65 < cLine) (h : cmpSem op = some p) : ∃ rr, OpR X (compareOp op) rr ∧ Prim2 F rr p := by
  cases op <;> simp only [cmpSem, Option.some.injEq, reduceCtorEq] at h <;> subst h
  · exact ⟨_, op_eqD (by omega), hK ▸ prim_eq⟩
  · exact ⟨_, op_neD (by omega), hK ▸ prim_ne⟩
  · exact ⟨_, op_lt, prim_b2⟩
  · exact ⟨_, op_le, prim_b2⟩
  · exact ⟨_, op_gt, prim_b2⟩
  · exact ⟨_, op_ge, prim_b2⟩
  · exact ⟨_, op_isN, prim_isN⟩
  · exact ⟨_, op_notN, prim_notN⟩
  · exact ⟨_, op_inD (by omega), hK ▸ prim_in⟩
  · exact ⟨_, op_notInD (by omega), hK ▸ prim_notIn⟩
/-- a built-in, called -/
def BltOk (F : Fx) (X : Cx) (x : Str) (p : List D → Option (D × Kd)) : Prop :=
  (x ≠ "__name__" ∧ (x == ("__debug__" : Str)) = false) ∧ ∃ rr, PrimL F rr p ∧ ((∃ id, CallR X (.builtin id) rr ∧ bootBuiltins x = some (.builtin id)) ∨ ∃ id, CallR X (.type id) rr ∧ bootBuiltins x = some (.type id))
theorem blt_ok {x : Str} {p : List D → Option (D × Kd)} (hK : X.K = F.K) (hc : X.calm = true) (h : bltS.lookup x = some p) : BltOk F X x p := by
  have hm := PySem.mem_of_lookup h
  simp only [bltS, List.mem_cons, Prod.mk.injEq, List.not_mem_nil, or_false] at hm
  rcases hm with ⟨rfl, rfl⟩ | ⟨rfl, rfl⟩ | ⟨rfl, rfl⟩ | ⟨rfl, rfl⟩ | ⟨rfl, rfl⟩ | ⟨rfl, rfl⟩ | ⟨rfl, rfl⟩ | ⟨rfl, rfl⟩ | ⟨rfl, rfl⟩
  · exact ⟨⟨by decide, by decide⟩, _, prim_len, .inl ⟨_, hK ▸ call_len, PySem.boot_len⟩⟩
  · exact ⟨⟨by decide, by decide⟩, _, prim_isi, .inl ⟨_, hK ▸ call_isi, PyProof.Rows.boot_isinstance⟩⟩
  · exact ⟨⟨by decide, by decide⟩, _, prim_tuple, .inr ⟨_, hK ▸ call_tuple_of, PyProof.Rows.boot_tuple⟩⟩
  · exact ⟨⟨by decide, by decide⟩, _, prim_list, .inr ⟨_, hK ▸ call_list_of, PyProof.Rows.boot_list⟩⟩
  · exact ⟨⟨by decide, by decide⟩, _, prim_int, .inr ⟨_, call_int1, PyProof.Rows.boot_int⟩⟩
  · exact ⟨⟨by decide, by decide⟩, _, prim_max, .inl ⟨_, call_max2 hc, PyProof.Rows.boot_max⟩⟩
  · exact ⟨⟨by decide, by decide⟩, _, prim_min, .inl ⟨_, call_min2 hc, PyProof.Rows.boot_min⟩⟩
  · exact ⟨⟨by decide, by decide⟩, _, prim_all, .inl ⟨_, hK ▸ cr_all hc, PyProof.Rows.boot_all⟩⟩
  · exact ⟨⟨by decide, by decide⟩, _, prim_any, .inl ⟨_, hK ▸ cr_any hc, PyProof.Rows.boot_any⟩⟩
theorem ty_ok {x : Str} {n : String} (h : tyS.lookup x = some n) : (x ≠ "__name__" ∧ (x == ("__debug__" : Str)) = false) ∧ bootBuiltins x = some (.type n) := by
  have hm := PySem.mem_of_lookup h
  simp only [tyS, List.mem_cons, Prod.mk.injEq, List.not_mem_nil, or_false] at hm
  rcases hm with ⟨rfl, rfl⟩ | ⟨rfl, rfl⟩ | ⟨rfl, rfl⟩ | ⟨rfl, rfl⟩ | ⟨rfl, rfl⟩ | ⟨rfl, rfl⟩
  · exact ⟨⟨by decide, by decide⟩, PyProof.Rows.boot_int⟩
  · exact ⟨⟨by decide, by decide⟩, PyProof.Rows.boot_bool⟩
  · exact ⟨⟨by decide, by decide⟩, PyProof.Rows.boot_tuple⟩
  · exact ⟨⟨by decide, by decide⟩, PyProof.Rows.boot_str⟩
  · exact ⟨⟨by decide, by decide⟩, PyProof.Rows.boot_list⟩
  · exact ⟨⟨by decide, by decide⟩, PyProof.Rows.boot_dict⟩

/-! ### forms of the text -/
def isStar : Expr → Bool | .Starred _ _ => true | _ => false
def isSlice : Expr → Bool | .Slice _ _ _ _ => true | _ => false
def isSet : Expr → Bool | .Set _ _ _ => true | _ => false
def isComp : Expr → Bool | .ListComp _ _ _ _ => true | .SetComp _ _ _ _ => true | .DictComp _ _ _ _ _ => true | _ => false
theorem star_cons {e : Expr} {es : List Expr} {env : Env} (h : isStar e = false) : starEach (e :: es) env = (false, eval e env) :: starEach es env := by cases e <;> first | rfl | cases h
theorem star_any {es : List Expr} {env : Env} {pos : Pos} (h : es.any isStar = false) : (backTo pos (starEach es env)).any (·.1) = false := by
  induction es with
  | nil => rfl
  | cons e es ih =>
    rw [List.any_cons, Bool.or_eq_false_iff] at h
    rw [star_cons h.1]
    show (false || (backTo pos (starEach es env)).any (·.1)) = false
    rw [ih h.2]; rfl
theorem plain_ix {e : Expr} (h : isSlice e = false) : PlainIx e := by intro o i; cases e <;> first | rfl | cases h
theorem no_fold {e : Expr} {env : Env} (h : isSet e = false) (x : Value) : foldedSetIterable e env x = pure x := by cases e <;> first | rfl | cases h
theorem no_mark {op : CmpOp} {e : Expr} (h : isSet e = false) : behindInMarks op e = false := by cases e <;> first | rfl | cases h
theorem sw_none {e : Expr} {t : Option Expr} {l : Nat} {env : Env} (h : isComp e = false) : swapsWith e t l env = pure false := by cases e <;> first | rfl | cases h
def slotOf (c : Cfg) (x : Str) : Option Nat :=
  match c.sc.names.lookup x with
  | some .local | some .cell | some .free => c.N.findIdx? (· == x)
  | _ => none
def dunder (x : Str) : Bool := (x == ("__debug__" : Str)) || (x == ("__classdict__" : Str))
theorem find_ok {N : List Str} {x : Str} {i : Nat} (h : N.findIdx? (· == x) = some i) : N[i]? = some x := by
  obtain ⟨h1, h2, _⟩ := List.findIdx?_eq_some_iff_getElem.mp h
  rw [List.getElem?_eq_getElem h1]
  simpa using h2
theorem slot_ok {x : Str} {i : Nat} (h : slotOf c x = some i) : c.N[i]? = some x ∧ Vis c.sc x := by
  unfold slotOf at h
  split at h
  · rename_i e; exact ⟨find_ok h, .inl e⟩
  · rename_i e; exact ⟨find_ok h, .inr (.inl e)⟩
  · rename_i e; exact ⟨find_ok h, .inr (.inr e)⟩
  · cases h
/-- a name that may be stored -/
def stSlot (c : Cfg) (x : Str) : Option Nat :=
  match c.sc.names.lookup x with
  | some .local => c.N.findIdx? (· == x)
  | some .cell => if c.fn x then c.N.findIdx? (· == x) else none
  | _ => none
theorem st_ok {x : Str} {i : Nat} (ok : XOk k c F Wx X) (h : stSlot c x = some i) : X.N[i]? = some x ∧ Loc X.env.scope x ∧ (X.fn x = true ∨ X.env.scope.names.lookup x = some .local) := by
  rw [ok.N, ok.sc]
  unfold stSlot at h
  split at h
  · rename_i e; exact ⟨find_ok h, .inl e, .inr e⟩
  · rename_i e
    split at h
    · rename_i hf; exact ⟨find_ok h, .inr e, .inl (ok.fn x hf)⟩
    · cases h
  · cases h
def isGl (c : Cfg) (x : Str) : Bool := c.sc.names.lookup x == some .globalImplicit
theorem gl_ok {x : Str} (ok : XOk k c F Wx X) (h : isGl c x = true) : Gl X x := by
  unfold isGl at h
  unfold Gl Env.kindOf
  rw [ok.sc]
  simpa using h
theorem XOk.nd' (ok : XOk k c F Wx X) : X.N.Nodup := ok.N ▸ ok.nd
/-! ### targets -/
def denTg (c : Cfg) : Nat → Expr → Option Tg
  | _, .Name x _ => (stSlot c x).map .nm
  | n + 1, .Tuple es _ _ => if es.any isStar then none else (es.mapM (denTg c n)).map .tp
  | _, _ => none
end
end Wk

set_option Elab.async false
set_option linter.all false
set_option maxRecDepth 100000
set_option maxHeartbeats 4000000
namespace Wk
open PySem PySem.Spec L2

def denL (d : Expr → Option Sm) (w : Sm → Sm) : List Expr → Option SmL
  | [] => some cNil
  | .Starred e _ :: es => match d e, denL d w es with
    | some f, some g => some (cStar f g)
    | _, _ => none
  | e :: es => match d e, denL d w es with
    | some f, some g => some (cCons (w f) g)
    | _, _ => none
def okT : Expr → Bool | .IfExp _ _ _ _ => false | _ => true
def isBo : Expr → Bool | .BoolOp _ _ _ => true | _ => false
def ownOf (c : Cfg) (sc : Scope) : List (Str × Nat) := sc.names.filterMap fun y => if y.2 == .local || y.2 == .cell then (c.N.findIdx? (· == y.1)).map fun i => (y.1, i) else none
def Cfg.blk (c : Cfg) (sc : Scope) : Cfg := { c with sc := relS sc c.sc, fn := fun x => sc.names.lookup x == some .cell }
def useB (c : Cfg) (x : Str) : Bool := isGl c x && c.bl.contains x
def denI (d : Expr → Option Sm) (c : Cfg) (tg it : Expr) : Option SmI :=
  match it with
  | .Call (.Name x _) (e :: es) [] _ =>
    if x == ("range" : Str) then
      if useB c x && !((e :: es).any isStar) then
        match e, es with
        | a, [] => (denL d id [a]).map cRng1
        | a, [b] => (denL d id [a, b]).map cRng2
        | _, _ => none
      else none
    else if x == ("zip" : Str) then
      if useB c x && !((e :: es).any isStar) && (es.length == 1 || es.length == 2 || es.length == 3) then
        match tg with
        | .Tuple _ _ _ => (denL d cFr (e :: es)).map cZip
        | _ => none
      else none
    else (d it).map cSeqI
  | it => (d it).map cSeqI
def den : Nat → Cfg → Expr → Option Sm
  | 0, _, _ => none
  | n + 1, c, e => match e with
    | .Name x _ => if dunder x then none else match slotOf c x with
      | some i => some (cVar i)
      | none => if isGl c x then match c.gls.lookup x with
          | some d => some (cC d)
          | none => match tyS.lookup x with
            | some t => if c.bl.contains x then some (cC (.ty t)) else none
            | none => none
        else none
    | .Constant v _ _ => match v with
      | .int i => some (cC (.int i))
      | .bool b => some (cC (.bl b))
      | .none => some (cC .non)
      | .str x => some (cC (.str x))
      | _ => none
    | .BinOp a op b _ => match opSem op, den n c a, den n c b with
      | some p, some f, some g => some (c2 p f g)
      | _, _, _ => none
    | .UnaryOp op a _ => match op with
      | .USub => (den n c a).map (c1 pNeg)
      | .Not => if okT a then (den n c a).map cNot else none
      | _ => none
    | .BoolOp op vs pos => match vs with
      | [] => none
      | a :: rest => if okT a then match rest with
          | [] => den n c a
          | b :: r => match op, den n c a, den n c (.BoolOp op (b :: r) pos) with
            | .And, some f, some g => some (cAnd f g)
            | .Or, some f, some g => some (cOr f g)
            | _, _, _ => none
        else none
    | .Compare a ops bs _ => match ops, bs with
      | [op], [b] => if isSet b then none else match cmpSem op, den n c a, den n c b with
        | some p, some f, some g => some (c2 p f g)
        | _, _, _ => none
      | [op, op'], [b, b'] => if isSet b' then none else match cmpSem op, cmpSem op', den n c a, den n c b, den n c b' with
        | some p, some q, some f, some g, some h => some (cChain p q f g h)
        | _, _, _, _, _ => none
      | _, _ => none
    | .IfExp t a b _ => if okT t then match den n c t, den n c a, den n c b with
        | some h, some f, some g => some (cIf h f g)
        | _, _, _ => none
      else none
    | .Call (.Name x _) (a :: as) [] _ =>
      if (a :: as).any isStar || dunder x || !isGl c x || !c.calm then none
      else if x == ("gcd" : Str) && c.gcd then (denL (den n c) id (a :: as)).map (cL pGcd)
      else match c.fns.lookup x with
        | some (m, fn) => if (a :: as).length == m then (denL (den n c) cFr (a :: as)).map (cCall fn) else none
        | none => if c.bl.contains x then match bltS.lookup x with
            | some p => (denL (den n c) id (a :: as)).map (cL p)
            | none => none
          else none
    | .Subscript a s _ => match s with
      | .Slice lo hi none _ => match den n c a, (match lo with | none => some none | some e => (den n c e).map some), (match hi with | none => some none | some e => (den n c e).map some) with
        | some f, some l, some h => some (cSl f l h)
        | _, _, _ => none
      | s => if isSlice s then none else match den n c a, den n c s with
        | some f, some g => some (c2 pIdx f g)
        | _, _ => none
    | .Tuple es _ _ => (denL (den n c) cFr es).map cTup
    | .List es _ => (denL (den n c) cFr es).map cLst
    | .ListComp elt [⟨tg, it, ifs, 0⟩] sc _ =>
      if c.calm && blkC c.N c.sc sc (ownOf c sc) && !isSet it then
        match denI (den n c) c tg it, denTg (c.blk sc) 9 tg, (match ifs with | [] => some (cC (.bl true)) | [i] => if okT i then den n (c.blk sc) i else none | _ => none), den n (c.blk sc) elt with
        | some fi, some t, some cond, some f => if (tgN t).all fun j => ((ownOf c sc).map (·.2)).contains j then some (cComp ((ownOf c sc).map (·.2)) t fi cond f) else none
        | _, _, _, _ => none
      else none
    | _ => none

section
variable {F : Fx} {X : Cx} {Wx : WX} {k : Nat} {c : Cfg}
theorem denL_ok {d : Expr → Option Sm} {w : Sm → Sm} (hK : X.K = F.K) (hd : ∀ e f, d e = some f → PE X e (tE F Wx f)) (hw : ∀ e f, PE X e (tE F Wx f) → PE X e (tE F Wx (w f))) : ∀ {es : List Expr} {g : SmL}, denL d w es = some g → PA X es (tA F Wx g)
  | [], g, h => by cases h; exact pA_nil
  | e :: es, g, h => by
    cases e with
    | Starred e p =>
      simp only [denL] at h
      split at h
      · rename_i f g' e1 e2
        cases h
        exact pA_star hK (hd _ _ e1) (denL_ok hK hd hw e2) rfl
      · cases h
    | _ =>
      simp only [denL] at h
      split at h
      · rename_i f g' e1 e2
        cases h
        exact pA_cons (hw _ _ (hd _ _ e1)) (denL_ok hK hd hw e2) rfl
      · cases h
theorem denL_len {d : Expr → Option Sm} {w : Sm → Sm} : ∀ {es : List Expr} {g : SmL}, es.any isStar = false → denL d w es = some g → ∀ ρ W l W', g ρ W = some (.vals l W') → l.length = es.length
  | [], g, _, h, ρ, W, l, W', e => by cases h; simp only [cNil, Option.some.injEq, LR.vals.injEq] at e; rw [← e.1]; rfl
  | e :: es, g, hs, h, ρ, W, l, W', el => by
    rw [List.any_cons, Bool.or_eq_false_iff] at hs
    have go : ∀ {f : Sm} {g' : SmL}, denL d w es = some g' → g = cCons f g' → l.length = (e :: es).length := by
      intro f g' e2 eg
      subst eg
      unfold cCons at el
      split at el
      · cases el
      · cases el
      · split at el
        · cases el
        · cases el
        · rename_i e3
          cases el
          simp [denL_len hs.2 e2 _ _ _ _ e3]
    cases e with
    | Starred e p => cases hs.1
    | _ =>
      simp only [denL] at h
      split at h
      · rename_i f g' e1 e2
        cases h
        exact go e2 rfl
      · cases h
theorem denTg_name (ok : XOk k c F Wx X) {x : Str} {p : Pos} {t : Tg} (h : (stSlot c x).map Tg.nm = some t) : PG X (.Name x p) (tG F t) := by
  obtain ⟨i, e, rfl⟩ := Option.map_eq_some_iff.mp h
  obtain ⟨h1, h2, h3⟩ := st_ok ok e
  exact pG_name ok.nd' h1 h2 h3
theorem denTg_ok (ok : XOk k c F Wx X) (hc : X.calm = true) : ∀ (n : Nat) (e : Expr) (t : Tg), denTg c n e = some t → PG X e (tG F t) := by
  intro n
  induction n with
  | zero =>
    intro e t h
    cases e with
    | Name x p => exact denTg_name ok h
    | _ => simp [denTg] at h
  | succ n ih =>
    intro e t h
    cases e with
    | Name x p => exact denTg_name ok h
    | Tuple es kk p =>
      have h' : (if es.any isStar then none else (es.mapM (denTg c n)).map Tg.tp) = some t := h
      split at h'
      · cases h'
      · rename_i hs
        obtain ⟨ts, e, rfl⟩ := Option.map_eq_some_iff.mp h'
        have all : ∀ {es : List Expr} {ts : List Tg}, es.any isStar = false → es.mapM (denTg c n) = some ts → PGs X es (tGs F ts) ∧ (assignEach es X.env).length = ts.length ∧ (assignEach es X.env).findIdx? (·.1) = none := by
          intro es
          induction es with
          | nil => intro ts _ e; simp only [List.mapM_nil] at e; cases e; exact ⟨pGs_nil, rfl, rfl⟩
          | cons e es ih2 =>
            intro ts hs em
            rw [List.any_cons, Bool.or_eq_false_iff] at hs
            rw [List.mapM_cons] at em
            simp only [Option.bind_eq_bind, Option.bind_eq_some_iff, Option.pure_def, Option.some.injEq] at em
            obtain ⟨t, et, ts', ets, rfl⟩ := em
            obtain ⟨i1, i2, i3⟩ := ih2 hs.2 ets
            have ae : assignEach (e :: es) X.env = (false, assign e X.env) :: assignEach es X.env := by
              cases e <;> first | rfl | cases hs.1
            refine ⟨pGs_cons (ih _ _ et) i1 (by rw [ae] <;> rfl), by rw [ae]; simp [i2], ?_⟩
            rw [ae, List.findIdx?_cons]
            simp [i3]
        obtain ⟨a1, a2, a3⟩ := all (by simpa using hs) e
        exact pG_tup hc ok.K a1 a2 a3 rfl
    | _ => simp [denTg] at h
theorem useB_ok {x : Str} (ok : XOk k c F Wx X) (h : useB c x = true) : Gl X x ∧ X.mg x = none := by
  unfold useB at h
  rw [Bool.and_eq_true] at h
  exact ⟨gl_ok ok h.1, ok.bl x (by simpa using h.2)⟩
theorem denI_ok {d : Expr → Option Sm} {tg it : Expr} {f : SmI} (ok : XOk k c F Wx X) (hd : ∀ e f, d e = some f → PE X e (tE F Wx f)) (h : denI d c tg it = some f) : PI X tg it (tI F Wx f) := by
  have plain : ∀ {f : SmI}, (d it).map cSeqI = some f → PI X tg it (tI F Wx f) := by
    intro f h
    obtain ⟨g, e, rfl⟩ := Option.map_eq_some_iff.mp h
    exact pI_seq ok.K (hd _ _ e)
  unfold denI at h
  split at h
  · rename_i x p e es pos
    split at h
    · rename_i hx
      have hx : x = "range" := by simpa using hx
      subst hx
      split at h
      · rename_i hb
        simp only [Bool.and_eq_true, Bool.not_eq_true', List.any_cons, Bool.or_eq_false_iff] at hb
        obtain ⟨hg, hm⟩ := useB_ok ok hb.1
        split at h
        · obtain ⟨g, eg, rfl⟩ := Option.map_eq_some_iff.mp h
          exact pI_range1 hg hm (denL_ok ok.K hd (fun _ _ h => h) eg) (by rw [star_cons hb.2.1] <;> rfl)
        · rename_i b
          obtain ⟨g, eg, rfl⟩ := Option.map_eq_some_iff.mp h
          simp only [List.any_cons, Bool.or_eq_false_iff] at hb
          exact pI_range2 hg hm (denL_ok ok.K hd (fun _ _ h => h) eg) (by rw [star_cons hb.2.1, star_cons hb.2.2.1] <;> rfl) (by rw [star_cons hb.2.2.1] <;> rfl)
        · cases h
      · cases h
    · split at h
      · rename_i hx
        have hx : x = "zip" := by simpa using hx
        subst hx
        split at h
        · rename_i hb
          simp only [Bool.and_eq_true, Bool.not_eq_true', Bool.or_eq_true, beq_iff_eq] at hb
          obtain ⟨⟨hb1, hb2⟩, hb3⟩ := hb
          obtain ⟨hg, hm⟩ := useB_ok ok hb1
          split at h
          · obtain ⟨g, eg, rfl⟩ := Option.map_eq_some_iff.mp h
            have hb2' := hb2
            rw [List.any_cons, Bool.or_eq_false_iff] at hb2'
            exact pI_zip ok.K (by omega) hg hm (denL_ok ok.K hd (fun _ _ h => pE_fr h) eg) (fun ρ W l W' e => by simpa using denL_len hb2 eg ρ W l W' e) (star_cons hb2'.1) (star_any hb2'.2)
          · cases h
        · cases h
      · exact plain h
  · exact plain h
theorem XOk.blk (ok : XOk k c F Wx X) {sc : Scope} {own : List (Str × Nat)} (hb : BlkOk X.N X.env.scope sc own) (s : Shared) (H : Hp) (C : Addr) (cl : List (Str × Addr)) (fp : List Addr) :
    XOk k (c.blk sc) F Wx0 (X.blk s H sc (compEnvC sc cl C X.env) fp) where
  N := ok.N
  nd := ok.nd
  sc := by
    show relS sc X.env.scope = relS sc c.sc
    rw [ok.sc]
  kind := hb.kind
  fn := fun x h => h
  calm := ok.calm
  K := ok.K
  mg := ok.mg
  tk := takes0
  un := ok.un
  room := ok.room
  fns := ok.fns
  gls := ok.gls
  bl := ok.bl
  gcd := ok.gcd
end
end Wk

set_option Elab.async false
set_option linter.all false
set_option maxRecDepth 100000
set_option maxHeartbeats 4000000
namespace Wk
open PySem PySem.Spec L2

section
variable {F : Fx} {X : Cx} {Wx : WX} {k : Nat} {c : Cfg}
/-- what the meaning of an expression promises -/
structure DenOk (F : Fx) (Wx : WX) (X : Cx) (e : Expr) (f : Sm) : Prop where
  pe : PE X e (tE F Wx f)
  pt : okT e = true → PT X e (tT F Wx f)
  pw : isBo e = true → PW X e (tT F Wx f)
theorem denPO {n : Nat} (ih : ∀ e f, den n c e = some f → DenOk F Wx X e f) {lo : Option Expr} {l : Option Sm} (h : (match lo with | none => some none | some e => (den n c e).map some) = some l) : PO X lo (tO F Wx l) := by
  cases lo with
  | none => cases h; exact po_none
  | some e =>
    obtain ⟨f, e1, rfl⟩ := Option.map_eq_some_iff.mp h
    exact po_some (ih _ _ e1).pe
theorem den_ok : ∀ (n : Nat) (c : Cfg) (e : Expr) (f : Sm), den n c e = some f → ∀ (X : Cx) (Wx : WX), XOk k c F Wx X → DenOk F Wx X e f := by
  intro n
  induction n with
  | zero => intro c e f h; simp [den] at h
  | succ n ih =>
    intro c e f h X Wx ok
    have ihE : ∀ e f, den n c e = some f → DenOk F Wx X e f := fun e f h => ih c e f h X Wx ok
    have ihP : ∀ e f, den n c e = some f → PE X e (tE F Wx f) := fun e f h => (ihE e f h).pe
    have hK := ok.K
    cases e with
    | Name x p =>
      have go : PE X (.Name x p) (tE F Wx f) := by
        simp only [den] at h
        split at h
        · cases h
        · rename_i hd
          unfold dunder at hd
          rw [Bool.or_eq_true, not_or, Bool.not_eq_true, Bool.not_eq_true] at hd
          split at h
          · rename_i i e1
            cases h
            obtain ⟨h1, h2⟩ := slot_ok e1
            exact pE_var (ok.N ▸ h1) (ok.sc ▸ h2) hd.1 hd.2
          · split at h
            · rename_i hg
              have hg' := gl_ok ok hg
              split at h
              · rename_i d e1
                cases h
                obtain ⟨u, v, h1, h2, h3⟩ := ok.gls _ _ e1
                exact pE_const (pe_glob hg' h1 h2 hd.1) h3
              · split at h
                · rename_i t e1
                  split at h
                  · rename_i hb
                    cases h
                    obtain ⟨hn, hv⟩ := ty_ok e1
                    exact pE_const (pe_bltn (v := .ty t) hg' (ok.bl x (by simpa using hb)) hv rfl hn.1 hn.2) fun r Z H => by simp [Rep]
                  · cases h
                · cases h
            · cases h
      exact ⟨go, fun _ => pT_val go (by intro _; rfl), fun z => nomatch z⟩
    | Constant v s p =>
      have go : PE X (.Constant v s p) (tE F Wx f) := by
        simp only [den] at h
        split at h <;> first | cases h | skip
        · exact pE_const pe_int fun r Z H => by simp [Rep]
        · exact pE_const pe_bl fun r Z H => by simp [Rep]
        · exact pE_const pe_non fun r Z H => by simp [Rep]
        · exact pE_const pe_str fun r Z H => by simp [Rep]
      exact ⟨go, fun _ => pT_val go (by intro _; rfl), fun z => nomatch z⟩
    | BinOp a op b p =>
      have go : PE X (.BinOp a op b p) (tE F Wx f) := by
        simp only [den] at h
        split at h
        · rename_i e1 e2 e3
          cases h
          obtain ⟨rr, h1, h2⟩ := op_ok hK e1
          exact pE_bin h1 h2 (ihP _ _ e2) (ihP _ _ e3)
        · cases h
      exact ⟨go, fun _ => pT_val go (by intro _; rfl), fun z => nomatch z⟩
    | UnaryOp op a p =>
      simp only [den] at h
      split at h
      · obtain ⟨g, e1, rfl⟩ := Option.map_eq_some_iff.mp h
        have go : PE X (.UnaryOp .USub a p) (tE F Wx (c1 pNeg g)) := pE_un un_neg prim_neg (ihP _ _ e1)
        exact ⟨go, fun _ => pT_val go (by intro _; rfl), fun z => nomatch z⟩
      · split at h
        · rename_i ht
          obtain ⟨g, e1, rfl⟩ := Option.map_eq_some_iff.mp h
          exact ⟨pE_not (ihP _ _ e1), fun _ => pT_not ((ihE _ _ e1).pt ht), fun z => nomatch z⟩
        · cases h
      · cases h
    | BoolOp op vs p =>
      simp only [den] at h
      split at h
      · cases h
      · rename_i a rest
        split at h
        · rename_i ht
          split at h
          · have i := ihE _ _ h
            have hw : PW X (.BoolOp op [a] p) (tT F Wx f) := by
              cases op
              · exact pw_and1 (i.pt ht)
              · exact pw_or1 (i.pt ht)
            exact ⟨pe_one i.pe, fun _ => hw.pt, fun _ => hw⟩
          · split at h
            · rename_i f1 g e1 e2
              cases h
              have i := ihE _ _ e1
              have j := ihE _ _ e2
              have hw := pW_and (i.pt ht) (j.pw rfl)
              exact ⟨pE_and i.pe j.pe, fun _ => hw.pt, fun _ => hw⟩
            · rename_i f1 g e1 e2
              cases h
              have i := ihE _ _ e1
              have j := ihE _ _ e2
              have hw := pW_or (i.pt ht) (j.pw rfl)
              exact ⟨pE_or i.pe j.pe, fun _ => hw.pt, fun _ => hw⟩
            · cases h
        · cases h
    | Compare a ops bs p =>
      simp only [den] at h
      split at h
      · split at h
        · cases h
        · rename_i hs
          split at h
          · rename_i e1 e2 e3
            cases h
            obtain ⟨rr, h1, h2⟩ := cmp_ok hK ok.un e1
            exact ⟨pE_cmp h1 h2 (no_mark (by simpa using hs)) (ihP _ _ e2) (ihP _ _ e3), fun _ => pT_cmp h1 h2 (no_mark (by simpa using hs)) (ihP _ _ e2) (ihP _ _ e3), fun z => nomatch z⟩
          · cases h
      · rename_i op op' b b'
        split at h
        · cases h
        · rename_i hs
          split at h
          · rename_i e1 e1' e2 e3 e4
            cases h
            obtain ⟨rr, h1, h2⟩ := cmp_ok hK ok.un e1
            obtain ⟨rr', h1', h2'⟩ := cmp_ok hK ok.un e1'
            have hm : lastMarks [op, op'] [b, b'] = false := by
              have := no_mark (op := op') (e := b') (by simpa using hs)
              unfold lastMarks
              simpa [lastMarks] using this
            exact ⟨pE_chain h1 h1' h2 h2' (ihP _ _ e2) (ihP _ _ e3) (ihP _ _ e4) hm, fun _ => pT_chain h1 h1' h2 h2' (ihP _ _ e2) (ihP _ _ e3) (ihP _ _ e4) hm, fun z => nomatch z⟩
          · cases h
      · cases h
    | IfExp t a b p =>
      simp only [den] at h
      split at h
      · rename_i ht
        split at h
        · rename_i e1 e2 e3
          cases h
          exact ⟨pE_if ((ihE _ _ e1).pt ht) (ihP _ _ e2) (ihP _ _ e3), (fun z => nomatch z), fun z => nomatch z⟩
        · cases h
      · cases h
    | Call fe es kws p =>
      cases fe with
      | Name x px =>
        cases es with
        | nil => simp [den] at h
        | cons a as =>
          cases kws with
          | cons _ _ => simp [den] at h
          | nil =>
            have go : PE X (.Call (.Name x px) (a :: as) [] p) (tE F Wx f) := by
              simp only [den] at h
              split at h
              · cases h
              · rename_i hh
                have hh' : ((a :: as).any isStar || dunder x || !isGl c x || !c.calm) = false := by simpa only [Bool.not_eq_true] using hh
                simp only [Bool.or_eq_false_iff, Bool.not_eq_false'] at hh'
                obtain ⟨⟨⟨hst, hd⟩, hg⟩, hcm⟩ := hh'
                unfold dunder at hd
                rw [Bool.or_eq_false_iff] at hd
                have hg' := gl_ok ok hg
                have hst' := hst
                rw [List.any_cons, Bool.or_eq_false_iff] at hst'
                have hse : starEach (a :: as) X.env = (false, eval a X.env) :: starEach as X.env := star_cons hst'.1
                have hpl : (backTo p (starEach as X.env)).any (·.1) = false := star_any hst'.2
                split at h
                · rename_i hgc
                  rw [Bool.and_eq_true] at hgc
                  have hx : x = "gcd" := by simpa using hgc.1
                  subst hx
                  obtain ⟨g, e1, rfl⟩ := Option.map_eq_some_iff.mp h
                  exact pE_Bfun cr_gcd prim_gcd hg' (ok.gcd hgc.2) (denL_ok hK ihP (fun _ _ h => h) e1) hd.1 hse hpl
                · split at h
                  · rename_i m fn e0
                    split at h
                    · rename_i hlen
                      obtain ⟨g, e1, rfl⟩ := Option.map_eq_some_iff.mp h
                      obtain ⟨A, fd, ps, Fo, hm, hk, hb⟩ := ok.fns _ _ _ e0
                      refine pE_call hK ok.mg Fo (ok.room hcm) hg' hm hk hb ok.tk (denL_ok hK ihP (fun _ _ h => pE_fr h) e1) (fun ρ W l W' el => ?_) hd.1 hse hpl
                      rw [denL_len hst e1 ρ W l W' el]
                      simpa using hlen
                    · cases h
                  · split at h
                    · rename_i hb
                      split at h
                      · rename_i q e1
                        obtain ⟨g, e2, rfl⟩ := Option.map_eq_some_iff.mp h
                        obtain ⟨hn, rr, hp, h3⟩ := blt_ok (F := F) hK (ok.calm hcm) e1
                        have hA := denL_ok hK ihP (fun _ _ h => h) e2
                        rcases h3 with ⟨id, h4, h5⟩ | ⟨id, h4, h5⟩
                        · exact pE_B h4 hp hg' (ok.bl x (by simpa using hb)) h5 hA hn.1 hn.2 hse hpl
                        · exact pE_Ty h4 hp hg' (ok.bl x (by simpa using hb)) h5 hA hn.1 hn.2 hse hpl
                      · cases h
                    · cases h
            exact ⟨go, fun _ => pT_val go (by intro _; rfl), fun z => nomatch z⟩
      | _ => simp [den] at h
    | Subscript a s p =>
      have go : PE X (.Subscript a s p) (tE F Wx f) := by
        simp only [den] at h
        split at h
        · split at h
          · rename_i e1 e2 e3
            cases h
            exact pE_sl hK (ihP _ _ e1) (denPO ihE e2) (denPO ihE e3)
          · cases h
        · split at h
          · cases h
          · rename_i hs
            split at h
            · rename_i e1 e2
              cases h
              exact pE_idx hK (ihP _ _ e1) (ihP _ _ e2) (plain_ix (by simpa using hs))
            · cases h
      exact ⟨go, fun _ => pT_val go (by intro _; rfl), fun z => nomatch z⟩
    | Tuple es kk p =>
      have go : PE X (.Tuple es kk p) (tE F Wx f) := by
        simp only [den] at h
        obtain ⟨g, e1, rfl⟩ := Option.map_eq_some_iff.mp h
        exact pE_tup (denL_ok hK ihP (fun _ _ h => pE_fr h) e1)
      exact ⟨go, fun _ => pT_val go (by intro _; rfl), fun z => nomatch z⟩
    | List es p =>
      have go : PE X (.List es p) (tE F Wx f) := by
        simp only [den] at h
        obtain ⟨g, e1, rfl⟩ := Option.map_eq_some_iff.mp h
        exact pE_lst (denL_ok hK ihP (fun _ _ h => pE_fr h) e1)
      exact ⟨go, fun _ => pT_val go (by intro _; rfl), fun z => nomatch z⟩
    | ListComp elt gens sc p =>
      have go : PE X (.ListComp elt gens sc p) (tE F Wx f) := by
        match gens, h with
        | [], h => simp [den] at h
        | _ :: _ :: _, h => simp [den] at h
        | [⟨tg, it, ifs, a⟩], h =>
          by_cases ha : a = 0
          · subst ha
            simp only [den] at h
            split at h
            · rename_i hh
              simp only [Bool.and_eq_true, Bool.not_eq_true'] at hh
              obtain ⟨⟨hcm, hb⟩, hs⟩ := hh
              split at h
              · rename_i fi t cond g e1 e2 e3 e4
                split at h
                · rename_i hv
                  cases h
                  have hbk : BlkOk X.N X.env.scope sc (ownOf c sc) := by rw [ok.N, ok.sc]; exact blkOk_by hb
                  refine pE_lc (ok.calm hcm) ok.nd' (denI_ok ok ihP e1) hbk (fun j hj => ?_) (fun s H C cl fp => ?_) (fun s H C cl fp => ?_) (fun s H C cl fp => ?_) (fun x => no_fold hs x)
                  · have := List.all_eq_true.mp hv j hj
                    simpa using this
                  · exact denTg_ok (ok.blk hbk s H C cl fp) (ok.calm hcm) _ _ _ e2
                  · split at e3
                    · cases e3; exact pTs_nil
                    · split at e3
                      · rename_i ht
                        exact pts_one ((ih _ _ _ e3 _ _ (ok.blk hbk s H C cl fp)).pt ht)
                      · cases e3
                    · cases e3
                  · exact (ih _ _ _ e4 _ _ (ok.blk hbk s H C cl fp)).pe
                · cases h
              · cases h
            · cases h
          · simp [den, ha] at h
      exact ⟨go, fun _ => pT_val go (by intro _; rfl), fun z => nomatch z⟩
    | _ => simp [den] at h
end
end Wk

set_option Elab.async false
set_option linter.all false
set_option maxRecDepth 100000
set_option maxHeartbeats 4000000
/-! # From the text to its meaning: statements -/
namespace Wk
open PySem PySem.Spec L2

/-! ### while, no count given -/
open Classical in
noncomputable def whileE (c : Sm) (body : SmS) : SmS := fun ρ W => if h : ∃ n o, whileN c body n ρ W = some o then whileN c body h.choose ρ W else none
theorem whileN_more {c : Sm} {body : SmS} {o : SR} : ∀ {n : Nat} {ρ : Env'} {W : Ro}, whileN c body n ρ W = some o → whileN c body (n + 1) ρ W = some o := by
  intro n
  induction n with
  | zero => intro ρ W h; simp [whileN] at h
  | succ n ih =>
    intro ρ W h
    rw [whileN.eq_def] at h ⊢
    dsimp only at h ⊢
    split at h
    · split at h
      · exact ih h
      · exact ih h
      · exact h
      · exact h
    · exact h
    · exact h
    · cases h
theorem whileN_le {c : Sm} {body : SmS} {o : SR} {n m : Nat} {ρ : Env'} {W : Ro} (h : n ≤ m) (e : whileN c body n ρ W = some o) : whileN c body m ρ W = some o := by
  induction h with
  | refl => exact e
  | step _ ih => exact whileN_more ih
theorem whileE_of {c : Sm} {body : SmS} {o : SR} {n : Nat} {ρ : Env'} {W : Ro} (e : whileN c body n ρ W = some o) : whileE c body ρ W = some o := by
  unfold whileE
  have hx : ∃ n o, whileN c body n ρ W = some o := ⟨n, o, e⟩
  rw [dif_pos hx]
  obtain ⟨o', e'⟩ := hx.choose_spec
  rcases Nat.le_total n hx.choose with h | h
  · exact whileN_le h e
  · have := whileN_le h e'
    rw [e] at this
    rw [e', this]
section
variable {F : Fx} {X : Cx} {Wx : WX} {pos : Pos}
theorem pS_whileE {c : Expr} {fc : Sm} {g : SmS} {body : List Stmt} (hp : PassesOwn (model X.prog X.w) X.A X.env X.xe) (hc : PT X c (tT F Wx fc)) (hb : PSs X body (tS F Wx g)) : PS X (.While c body [] pos) (tS F Wx (whileE fc g)) := by
  refine ⟨fun pins s σ H D I ⟨r, Z, ρ, W, s1, h⟩ => ?_⟩
  unfold whileE at h
  split at h
  · rename_i hx
    exact (pS_while (pos := pos) hx.choose hp hc hb).run pins s σ H D I ⟨r, Z, ρ, W, s1, h⟩
  · exact h.elim
end

/-! ### the look-ahead of an assignment -/
def nmS (sc : Scope) (line : Nat) : Expr → Option Str
  | .Name id pos => if sc.names.lookup id == some .local && pos.line == line then some id else none
  | _ => none
def swB (sc : Scope) (ts vs : List Expr) : Option (Option (List Str)) :=
  if !(ts.length == 2 || ts.length == 3) || vs.length != ts.length then some none
  else if vs.any isStar then some none
  else if (ts.filterMap (nmS sc ((ts.head?.map (·.pos.line)).getD 0))).length != ts.length || (ts.filterMap (nmS sc ((ts.head?.map (·.pos.line)).getD 0))).eraseDups.length != (ts.filterMap (nmS sc ((ts.head?.map (·.pos.line)).getD 0))).length then some none
  else if vs.all (foldedForSure 8) then some none
  else if vs.all (constantsAlone 8) then none
  else some (some (ts.filterMap (nmS sc ((ts.head?.map (·.pos.line)).getD 0))))
theorem blk_fn {env : Env} (h : env.scope.kind = .function) : env.blockKind = .function := by
  unfold Env.blockKind
  rw [h]
  rfl
theorem any_star {vs : List Expr} {g : Expr → Bool} (h : ∀ e, g e = isStar e) : vs.any g = vs.any isStar := by
  have : g = isStar := funext h
  rw [this]
theorem fm_nm {ts : List Expr} {sc : Scope} {l : Nat} {g : Expr → Option Str} (h : ∀ e, g e = nmS sc l e) : ts.filterMap g = ts.filterMap (nmS sc l) := by
  have : g = nmS sc l := funext h
  rw [this]
theorem swB_ok {env : Env} {sc : Scope} {ts vs : List Expr} {kt k2 : Nat} {pt pt2 : Pos} {o : Option (List Str)} (hs : env.scope = sc) (hk : sc.kind = .function) (h : swB sc ts vs = some o) : swappedStores [.Tuple ts kt pt] (.Tuple vs k2 pt2) env = pure o := by
  have hb : env.blockKind = .function := blk_fn (hs ▸ hk)
  have hks : ∀ id : Str, env.kindOf id = sc.names.lookup id := fun id => by subst hs; rfl
  unfold swappedStores
  unfold swB at h
  dsimp only
  rw [any_star (vs := vs) ?hst, fm_nm (ts := ts) (sc := sc) (l := (ts.head?.map (·.pos.line)).getD 0) ?hnm]
  case hst => intro e; cases e <;> rfl
  case hnm => intro e; cases e <;> first | rfl | (simp only [hks, nmS])
  simp only [hb]
  split at h
  · rename_i h1
    cases h
    rw [if_pos (by rw [h1]; rfl)]
  · rename_i h1
    rw [if_neg (by simpa using h1)]
    split at h
    · rename_i h2
      cases h
      rw [if_pos h2]
    · rename_i h2
      rw [if_neg h2]
      split at h
      · rename_i h3
        cases h
        rw [if_pos h3]
      · rename_i h3
        rw [if_neg h3]
        split at h
        · rename_i h4
          cases h
          rw [if_pos h4]
        · rename_i h4
          rw [if_neg h4]
          split at h
          · cases h
          · rename_i h5
            cases h
            rw [if_neg h5]
def isTup : Expr → Bool | .Tuple _ _ _ => true | _ => false
theorem sws_tup {env : Env} {e : Expr} {t : Expr} (h : isTup e = false) : swappedStores [t] e env = pure none := by
  cases e <;> cases t <;> first | rfl | cases h
theorem sws_sub {env : Env} {e a b : Expr} {p : Pos} : swappedStores [.Subscript a b p] e env = pure none := by cases e <;> rfl
theorem sw_sub {env : Env} {e a b : Expr} {p : Pos} {l : Nat} : swapsWith e (some (.Subscript a b p)) l env = pure false := by cases e <;> rfl
theorem sw_tup {env : Env} {e : Expr} {es : List Expr} {k : Nat} {p : Pos} {l : Nat} : swapsWith e (some (.Tuple es k p)) l env = pure false := by cases e <;> rfl
/-- a comprehension and the name that it is assigned to -/
def swN (sc scope : Scope) (t : Str) (p1 p2 : Pos) : Bool := sc.names.lookup t == some .local && p1.line == p2.line && !(scope.names.any fun (n, k) => n == t && (k == .local || k == .cell))
theorem swN_ok {env : Env} {sc scope : Scope} {elt : Expr} {gens : List Comprehension} {t : Str} {p1 p2 : Pos} {l : Nat} (hs : env.scope = sc) (hk : sc.kind = .function) : swapsWith (.ListComp elt gens scope p2) (some (.Name t p1)) l env = pure (swN sc scope t p1 p2) := by
  have hb : env.blockKind = .function := blk_fn (hs ▸ hk)
  have hks : ∀ id : Str, env.kindOf id = sc.names.lookup id := fun id => by subst hs; rfl
  show (pure (env.blockKind == .function && env.kindOf t == some .local && p1.line == p2.line && !(scope.names.any fun (n, k) => n == t && (k == .local || k == .cell))) : Sem Bool) = _
  rw [hb, hks]
  rfl
end Wk

set_option Elab.async false
set_option linter.all false
set_option maxRecDepth 100000
set_option maxHeartbeats 4000000
namespace Wk
open PySem PySem.Spec L2

structure Cs where
  c : Cfg
  shr : List (Nat × List Nat)
  rz : List Str
  hd : List (Str × (Str → Option Bool))
structure ExcF (K : PySem.W.Frag) (mg : Str → Option Value) (x : Str) : Prop where
  ex : ∃ (B newId initId : String) (bmB : List Value) (C : Addr), ExcBaseFacts B newId initId bmB ∧ PySem.W.excIn K C bmB newId = true ∧ mg x = some (.ref C) ∧ PySem.W.keepIn K (.ref C) = true ∧
    PySem.W.subIn K (.ref C) (.type "BaseException") = some true ∧ PySem.W.typeIn K (.ref C) = some (.type "type")
structure CsOk (s : Cs) (F : Fx) : Prop where
  rz : ∀ x ∈ s.rz, ExcF F.K F.mg x
  hd : ∀ x ct, s.hd.lookup x = some ct → ∃ cv, (F.mg x = some cv ∨ (F.mg x = none ∧ bootBuiltins x = some cv ∧ x ≠ "__name__")) ∧ ∀ c' b C, ct c' = some b → F.mg c' = some (.ref C) → PySem.W.exmOne F.K (.ref C) cv = some b
structure SOk (k : Nat) (c : Cfg) (F : Fx) (Wx : WX) (X : Cx) : Prop where
  x : XOk k c F Wx X
  pass : PassesOwn (model X.prog X.w) X.A X.env X.xe
  stk : X.stack = X.env :: X.outer
  frm : X.env.frame = some X.env.locals

def isName : Expr → Option Str | .Name x _ => some x | _ => none
def isList : Expr → Bool | .List _ _ => true | _ => false
def nmsOf (c : Cfg) : List Expr → Option (List Nat)
  | [] => some []
  | .Name x _ :: es => match stSlot c x, nmsOf c es with
    | some i, some is => some (i :: is)
    | _, _ => none
  | _ => none
def tpsOf (d : Expr → Option Sm) (c : Cfg) : List Expr → Option (List Tp)
  | [] => some []
  | .Name x _ :: es => match stSlot c x, tpsOf d c es with
    | some i, some is => some (.nm i :: is)
    | _, _ => none
  | .Subscript (.Name x _) ei _ :: es => if dunder x || isSlice ei then none else match slotOf c x, d ei, tpsOf d c es with
    | some i, some f, some is => some (.si i f :: is)
    | _, _, _ => none
  | _ => none
def isDoc : Expr → Bool | .Constant (.str _) _ _ => true | _ => false
def denE (d : Expr → Option Sm) (c : Cfg) (e : Expr) : Option SmS :=
  if isDoc e then some cNx else match e with
  | .Call (.Attribute (.Name x _) m ap) [a] [] cp =>
    if dunder x || isStar a || !(ap.endLine == cp.line) then none
    else if m == ("append" : Str) then match slotOf c x, d a with
      | some i, some f => some (cApp i f)
      | _, _ => none
    else if m == ("extend" : Str) then match slotOf c x, d a with
      | some i, some f => some (cExt i f)
      | _, _ => none
    else none
  | e => if isComp e then none else (d e).map cExpr
def compSc : Expr → Option (Scope × Pos) | .ListComp _ _ sc p => some (sc, p) | _ => none
def denA (d : Expr → Option Sm) (c : Cfg) (t e : Expr) : Option SmS :=
  match t with
  | .Name x p => if x == ("_law_row" : Str) && isList e then match stSlot c x, d e with
      | some i, some f => some (cMkRow i f)
      | _, _ => none
    else if isComp e then match compSc e with
      | some _ => if c.calm then match stSlot c x, d e with
        | some i, some f => some (cAsg i f)
        | _, _ => none
        else none
      | none => none
    else match stSlot c x, d e with
      | some i, some f => some (cAsg i f)
      | _, _ => none
  | .Subscript (.Name x _) ei _ => if dunder x || isSlice ei then none else match slotOf c x, d ei, d e with
      | some i, some fi, some fe => some (cSetI i fi fe)
      | _, _, _ => none
  | .Tuple ts _ _ =>
    if !c.calm then none else match e with
    | .Tuple es _ _ => match denL d id es with
      | none => none
      | some fa => match swB c.sc ts es with
        | none => none
        | some (some _) => match ts, nmsOf c ts with
          | [_, _], some [i, j] => if i == j then none else some (cPar [i, j] fa)
          | [_, _, _], some [i, j, l] => if i == j || i == l || j == l then none else some (cPar [i, j, l] fa)
          | _, _ => none
        | some none => match nmsOf c ts with
          | some is => some (cPar is fa)
          | none => match tpsOf d c ts with
            | some tps => some (cStore tps fa)
            | none => none
    | e => match nmsOf c ts, d e with
      | some is, some f => some (cUn is f)
      | _, _ => none
  | _ => none
def denB (d : Stmt → Option SmS) : List Stmt → Option SmS
  | [] => some cNx
  | s :: r => match d s, denB d r with
    | some f, some g => some (cSeq f g)
    | _, _ => none
def Cs.off (s : Cs) : Cs := { s with c := { s.c with calm := false } }
noncomputable def den0 (denS : Cs → Stmt → Option SmS) (n : Nat) (s : Cs) (st : Stmt) : Option SmS :=
  match st with
  | .Pass _ => some cNx
  | .Break _ => some cBk
  | .Continue _ => some cCt
  | .Expr e _ => denE (den n s.c) s.c e
  | .Return none _ => some cRetN
  | .Return (some e) _ => (den n s.c e).map cRet
  | .Assign [t] e _ => denA (den n s.c) s.c t e
  | .AugAssign (.Name x _) op e _ => match op with
    | .Add => match stSlot s.c x, den n s.c e with
      | some i, some f => some (cAug i .Add f)
      | _, _ => none
    | .Sub => match stSlot s.c x, den n s.c e with
      | some i, some f => some (cAug i .Sub f)
      | _, _ => none
    | _ => none
  | .If t as bs _ => if okT t then match den n s.c t, denB (denS s) as, denB (denS s) bs with
    | some f, some g, some h => some (cIfS f g h)
    | _, _, _ => none
    else none
  | .For tg it body [] _ => if s.c.calm && !isSet it then match denI (den n s.c) s.c tg it, denTg s.c 9 tg, denB (denS s) body with
    | some fi, some t, some g => some (cFor t fi g)
    | _, _, _ => none
    else none
  | .While t body [] _ => if okT t then match den n s.c t, denB (denS s) body with
    | some f, some g => some (whileE f g)
    | _, _ => none
    else none
  | .Raise (some (.Call (.Name x _) [.Constant (.str _) _ _] [] _)) none _ => if s.rz.contains x && isGl s.c x && !dunder x && s.c.calm then some (cRaise x) else none
  | .Try body [.ExceptHandler (some (.Name x _)) (some n) (b₀ :: suite) _] [] [] _ =>
    if isGl s.c x && !dunder x && s.c.sc.names.lookup n == some .local then match s.hd.lookup x, stSlot s.c n, denB (denS s) body, denB (denS s.off) (b₀ :: suite) with
      | some ct, some i, some fb, some fs => some (cTry i ct fb fs)
      | _, _, _, _ => none
    else none
  | _ => none
def stLine : Stmt → Nat
  | .Pass p => p.line | .Break p => p.line | .Continue p => p.line | .Expr _ p => p.line | .Return _ p => p.line | .Assign _ _ p => p.line
  | .AugAssign _ _ _ p => p.line | .If _ _ _ p => p.line | .For _ _ _ _ p => p.line | .While _ _ _ p => p.line | .Raise _ _ p => p.line | .Try _ _ _ _ p => p.line | _ => 0
def shrS (l : Option (List Nat)) (f : SmS) : SmS := match l with | none => f | some is => cShr is f
/-- a statement's meaning -/
noncomputable def denS : Nat → Cs → Stmt → Option SmS
  | 0, _, _ => none
  | n + 1, s, st => (den0 (denS n) n s st).map (shrS (s.shr.lookup (stLine st)))
noncomputable def denSs (n : Nat) (s : Cs) (l : List Stmt) : Option SmS := denB (denS n s) l
end Wk

set_option Elab.async false
set_option linter.all false
set_option maxRecDepth 100000
set_option maxHeartbeats 4000000
namespace Wk
open PySem PySem.Spec L2
section
variable {F : Fx} {X : Cx} {Wx : WX} {k : Nat} {c : Cfg}
/-- a comprehension's parts -/
theorem lc_den {n : Nat} {elt : Expr} {gens : List Comprehension} {sc : Scope} {p : Pos} {f : Sm} (ok : XOk k c F Wx X) (h : den n c (.ListComp elt gens sc p) = some f) :
    ∃ tg it ifs fi t cond g, gens = [⟨tg, it, ifs, 0⟩] ∧ f = cComp ((ownOf c sc).map (·.2)) t fi cond g ∧ PI X tg it (tI F Wx fi) ∧ BlkOk X.N X.env.scope sc (ownOf c sc) ∧ (∀ j ∈ tgN t, j ∈ (ownOf c sc).map (·.2)) ∧
    (∀ (s : Shared) (H : Hp) (C : Addr) (cl : List (Str × Addr)) (fp : List Addr), PG (X.blk s H sc (compEnvC sc cl C X.env) fp) tg (tG F t)) ∧
    (∀ (s : Shared) (H : Hp) (C : Addr) (cl : List (Str × Addr)) (fp : List Addr), PTs (X.blk s H sc (compEnvC sc cl C X.env) fp) ifs (tT F Wx0 cond)) ∧
    (∀ (s : Shared) (H : Hp) (C : Addr) (cl : List (Str × Addr)) (fp : List Addr), PE (X.blk s H sc (compEnvC sc cl C X.env) fp) elt (tE F Wx0 g)) ∧ (∀ x, foldedSetIterable it X.env x = pure x) := by
  cases n with
  | zero => simp [den] at h
  | succ n =>
    have ih := den_ok (F := F) (k := k) n
    have ihP : ∀ e f, den n c e = some f → PE X e (tE F Wx f) := fun e f h => (ih c e f h X Wx ok).pe
    match gens, h with
    | [], h => simp [den] at h
    | _ :: _ :: _, h => simp [den] at h
    | [⟨tg, it, ifs, a⟩], h =>
      by_cases ha : a = 0
      · subst ha
        simp only [den] at h
        split at h
        · rename_i hh
          simp only [Bool.and_eq_true, Bool.not_eq_true'] at hh
          obtain ⟨⟨hcm, hb⟩, hs⟩ := hh
          split at h
          · rename_i fi t cond g e1 e2 e3 e4
            split at h
            · rename_i hv
              cases h
              have hbk : BlkOk X.N X.env.scope sc (ownOf c sc) := by rw [ok.N, ok.sc]; exact blkOk_by hb
              refine ⟨tg, it, ifs, fi, t, cond, g, rfl, rfl, denI_ok ok ihP e1, hbk, (fun j hj => ?_), (fun s H C cl fp => ?_), (fun s H C cl fp => ?_), (fun s H C cl fp => ?_), (fun x => no_fold hs x)⟩
              · have := List.all_eq_true.mp hv j hj
                simpa using this
              · exact denTg_ok (ok.blk hbk s H C cl fp) (ok.calm hcm) _ _ _ e2
              · split at e3
                · cases e3; exact pTs_nil
                · split at e3
                  · rename_i ht
                    exact pts_one ((ih _ _ _ e3 _ _ (ok.blk hbk s H C cl fp)).pt ht)
                  · cases e3
                · cases e3
              · exact (ih _ _ _ e4 _ _ (ok.blk hbk s H C cl fp)).pe
            · cases h
          · cases h
        · cases h
      · simp [den, ha] at h
/-- names as targets -/
theorem nms_ok (ok : XOk k c F Wx X) : ∀ {ts : List Expr} {is : List Nat}, nmsOf c ts = some is → PGs X ts (gNs is) ∧ (assignEach ts X.env).length = is.length ∧ (assignEach ts X.env).findIdx? (·.1) = none := by
  intro ts
  induction ts with
  | nil => intro is h; cases h; exact ⟨pgs_names_nil, rfl, rfl⟩
  | cons t ts ih =>
    intro is h
    cases t with
    | Name x p =>
      simp only [nmsOf] at h
      split at h
      · rename_i i is' e1 e2
        cases h
        obtain ⟨a1, a2, a3⟩ := ih e2
        obtain ⟨h1, h2, h3⟩ := st_ok ok e1
        refine ⟨pgs_names_cons ok.nd' h1 h2 h3 a1 rfl, by simp [assignEach, a2], ?_⟩
        show ((false, assign (.Name x p) X.env) :: assignEach ts X.env).findIdx? (·.1) = none
        rw [List.findIdx?_cons]
        simp [a3]
      · cases h
    | _ => simp [nmsOf] at h
theorem sub_assign {x : Str} {px sp : Pos} {ei : Expr} {env : Env} (h : isSlice ei = false) (v : Value) : assign (.Subscript (.Name x px) ei sp) env v = (do
      let ov ← holding [v] (eval (.Name x px) env)
      let iv ← holding [v, ov] (eval ei env)
      standAt sp
      holding [v, ov, iv] (setItem ov iv v)
      release [v, ov, iv] []) := by cases ei <;> first | rfl | cases h
theorem dun_no {x : Str} (h : dunder x = false) : (x == ("__debug__" : Str)) = false ∧ (x == ("__classdict__" : Str)) = false := by
  unfold dunder at h
  rw [Bool.or_eq_false_iff] at h
  exact h
theorem tps_ok {d : Expr → Option Sm} (ok : XOk k c F Wx X) (hd : ∀ e f, d e = some f → PE X e (tE F Wx0 f)) : ∀ {ts : List Expr} {is : List Tp}, tpsOf d c ts = some is → PGs X ts (gPs F is) ∧ (assignEach ts X.env).length = is.length ∧ (assignEach ts X.env).findIdx? (·.1) = none := by
  intro ts
  induction ts with
  | nil => intro is h; cases h; exact ⟨pgP_nil, rfl, rfl⟩
  | cons t ts ih =>
    intro is h
    cases t with
    | Name x p =>
      simp only [tpsOf] at h
      split at h
      · rename_i i is' e1 e2
        cases h
        obtain ⟨a1, a2, a3⟩ := ih e2
        obtain ⟨h1, h2, h3⟩ := st_ok ok e1
        refine ⟨pgP_name ok.nd' h1 h2 h3 a1 rfl, by simp [assignEach, a2], ?_⟩
        show ((false, assign (.Name x p) X.env) :: assignEach ts X.env).findIdx? (·.1) = none
        rw [List.findIdx?_cons]
        simp [a3]
      · cases h
    | Subscript o ei sp =>
      cases o with
      | Name x px =>
        simp only [tpsOf] at h
        split at h
        · cases h
        · rename_i hh
          rw [Bool.or_eq_true, not_or, Bool.not_eq_true, Bool.not_eq_true] at hh
          split at h
          · rename_i i f is' e1 e2 e3
            cases h
            obtain ⟨a1, a2, a3⟩ := ih e3
            obtain ⟨h1, h2⟩ := slot_ok e1
            obtain ⟨d1, d2⟩ := dun_no hh.1
            refine ⟨pgP_sub (ok.N ▸ h1) (ok.sc ▸ h2) d1 d2 (hd _ _ e2) (sub_assign hh.2) a1 rfl, by simp [assignEach, a2], ?_⟩
            show ((false, assign (.Subscript (.Name x px) ei sp) X.env) :: assignEach ts X.env).findIdx? (·.1) = none
            rw [List.findIdx?_cons]
            simp [a3]
          · cases h
      | _ => simp [tpsOf] at h
    | _ => simp [tpsOf] at h
theorem denB_ok {d : Stmt → Option SmS} (hd : ∀ st f, d st = some f → PS X st (tS F Wx f)) : ∀ {l : List Stmt} {f : SmS}, denB d l = some f → PSs X l (tS F Wx f) := by
  intro l
  induction l with
  | nil => intro f h; cases h; exact pSs_nil
  | cons st l ih =>
    intro f h
    unfold denB at h
    split at h
    · rename_i f1 g e1 e2
      cases h
      exact pSs_cons (hd _ _ e1) (ih e2)
    · cases h
theorem denE_ok {n : Nat} {e : Expr} {f : SmS} {p : Pos} (ok : XOk k c F Wx X) (h : denE (den n c) c e = some f) : PS X (.Expr e p) (tS F Wx f) := by
  have hK := ok.K
  have ihP : ∀ e f, den n c e = some f → PE X e (tE F Wx f) := fun e f h => (den_ok n c e f h X Wx ok).pe
  unfold denE at h
  split at h
  · rename_i hd
    cases h
    cases e with
    | Constant v j q =>
      cases v with
      | str x => exact PS.imp ps_doc fun D σ H ⟨r, Z, ρ, W, s, h⟩ => h r σ H Z s SPost.refl
      | _ => cases hd
    | _ => cases hd
  · split at h
    · rename_i x px m ap a cp _
      split at h
      · cases h
      · rename_i hh
        have hh' : (dunder x || isStar a || !(ap.endLine == cp.line)) = false := by simpa only [Bool.not_eq_true] using hh
        rw [Bool.or_eq_false_iff, Bool.or_eq_false_iff, Bool.not_eq_false'] at hh'
        obtain ⟨⟨hd, hs⟩, hl⟩ := hh'
        obtain ⟨d1, d2⟩ := dun_no hd
        have hst : starEach [a] X.env = [(false, eval a X.env)] := star_cons hs
        have few : ((backTo cp (starEach [a] X.env)).all (fun x => !x.1) && (backToKw cp (keywordEach [] X.env)).all (fun x => x.1.isSome)
      && decide ([a].length + ([] : List Keyword).length + (if ([] : List Keyword).isEmpty then 0 else 1) < 30)) = true := by rw [hst]; rfl
        split at h
        · rename_i hm
          have hm : m = "append" := by simpa using hm
          subst hm
          split at h
          · rename_i i g e1 e2
            cases h
            obtain ⟨h1, h2⟩ := slot_ok e1
            exact pS_app hK (ok.N ▸ h1) (ok.sc ▸ h2) d1 d2 (ihP _ _ e2) hst hl few
          · cases h
        · split at h
          · rename_i hm
            have hm : m = "extend" := by simpa using hm
            subst hm
            split at h
            · rename_i i g e1 e2
              cases h
              obtain ⟨h1, h2⟩ := slot_ok e1
              exact pS_ext hK (ok.N ▸ h1) (ok.sc ▸ h2) d1 d2 (ihP _ _ e2) hst hl few
            · cases h
          · cases h
    · split at h
      · cases h
      · rename_i hc
        obtain ⟨g, e1, rfl⟩ := Option.map_eq_some_iff.mp h
        exact pS_expr (ihP _ _ e1) (sw_none (by simpa using hc))
end
end Wk

set_option Elab.async false
set_option linter.all false
set_option maxRecDepth 100000
set_option maxHeartbeats 4000000
namespace Wk
open PySem PySem.Spec L2
section
variable {F : Fx} {X : Cx} {Wx : WX} {k : Nat} {c : Cfg}
theorem XOk.wx0 (ok : XOk k c F Wx X) : XOk k c F Wx0 X := ⟨ok.N, ok.nd, ok.sc, ok.kind, ok.fn, ok.calm, ok.K, ok.mg, takes0, ok.un, ok.room, ok.fns, ok.gls, ok.bl, ok.gcd⟩
theorem two_names {ts : List Expr} {sc : Scope} {l : Nat} : (ts.filterMap (nmS sc l)).length = ts.length → ∀ t ∈ ts, ∃ x p, t = .Name x p ∧ sc.names.lookup x = some .local := by
  induction ts with
  | nil => intro _ t h; cases h
  | cons t ts ih =>
    intro h
    have hle : (ts.filterMap (nmS sc l)).length ≤ ts.length := List.length_filterMap_le _ _
    rw [List.filterMap_cons] at h
    cases e : nmS sc l t with
    | none => rw [e] at h; simp at h; omega
    | some y =>
      rw [e] at h
      have ih' := ih (by simpa using h)
      intro u hu
      rcases List.mem_cons.mp hu with rfl | hu
      · cases u with
        | Name x p =>
          simp only [nmS] at e
          split at e
          · rename_i hh
            simp only [Bool.and_eq_true, beq_iff_eq] at hh
            exact ⟨x, p, rfl, hh.1⟩
          · cases e
        | _ => cases e
      · exact ih' u hu
theorem swB_some {sc : Scope} {ts es : List Expr} {nm : List Str} (h : swB sc ts es = some (some nm)) : ts.filterMap (nmS sc ((ts.head?.map (·.pos.line)).getD 0)) = nm ∧ nm.length = ts.length ∧ es.length = ts.length := by
  unfold swB at h
  split at h
  · cases h
  · rename_i h1
    split at h
    · cases h
    · split at h
      · cases h
      · rename_i h3
        split at h
        · cases h
        · split at h
          · cases h
          · cases h
            refine ⟨rfl, ?_, ?_⟩
            · rw [Bool.or_eq_true, not_or, bne_iff_ne, Classical.not_not] at h3
              exact h3.1
            · rw [Bool.or_eq_true, not_or] at h1
              simpa using h1.2
theorem nm_name {x : Str} {p : Pos} {sc : Scope} {l : Nat} {y : Str} (h : nmS sc l (.Name x p) = some y) : y = x ∧ sc.names.lookup x = some .local := by
  simp only [nmS] at h
  split at h
  · rename_i hh
    cases h
    simp only [Bool.and_eq_true, beq_iff_eq] at hh
    exact ⟨rfl, hh.1⟩
  · cases h
theorem nm_all {ts : List Expr} {sc : Scope} {l : Nat} : (ts.filterMap (nmS sc l)).length = ts.length → ts.filterMap (nmS sc l) = ts.filterMap isName := by
  induction ts with
  | nil => intro _; rfl
  | cons t ts ih =>
    intro h
    have hle : (ts.filterMap (nmS sc l)).length ≤ ts.length := List.length_filterMap_le _ _
    rw [List.filterMap_cons] at h ⊢
    rw [List.filterMap_cons]
    cases e : nmS sc l t with
    | none => rw [e] at h; simp at h; omega
    | some y =>
      rw [e] at h
      cases t with
      | Name x p =>
        obtain ⟨rfl, _⟩ := nm_name e
        dsimp only [isName]
        rw [ih (by simpa using h)]
      | _ => cases e
theorem nms_two {t u : Expr} {i j : Nat} (h : nmsOf c [t, u] = some [i, j]) : ∃ x px y py, t = .Name x px ∧ u = .Name y py ∧ stSlot c x = some i ∧ stSlot c y = some j := by
  cases t with
  | Name x px =>
    cases u with
    | Name y py =>
      simp only [nmsOf] at h
      split at h
      · rename_i i' is e1 e2
        split at e2
        · rename_i j' is' e3 e4
          cases e4; cases e2; cases h
          exact ⟨x, px, y, py, rfl, rfl, e1, e3⟩
        · cases e2
      · cases h
    | _ => simp [nmsOf] at h
  | _ => simp [nmsOf] at h
theorem nms_three {t u v : Expr} {i j l : Nat} (h : nmsOf c [t, u, v] = some [i, j, l]) : ∃ x px y py z pz, t = .Name x px ∧ u = .Name y py ∧ v = .Name z pz ∧ stSlot c x = some i ∧ stSlot c y = some j ∧ stSlot c z = some l := by
  cases t with
  | Name x px =>
    have h' : (match stSlot c x, nmsOf c [u, v] with | some i, some is => some (i :: is) | _, _ => none) = some [i, j, l] := h
    cases e1 : stSlot c x with
    | none => rw [e1] at h'; cases h'
    | some i' =>
      rw [e1] at h'
      cases e2 : nmsOf c [u, v] with
      | none => rw [e2] at h'; cases h'
      | some is =>
        rw [e2] at h'
        cases h'
        obtain ⟨y, py, z, pz, rfl, rfl, h1, h2⟩ := nms_two e2
        exact ⟨x, px, y, py, z, pz, rfl, rfl, rfl, e1, h1, h2⟩
  | _ => simp [nmsOf] at h
theorem denA_ok {n : Nat} {t e : Expr} {f : SmS} {p : Pos} (ok : XOk k c F Wx X) (h : denA (den n c) c t e = some f) : PS X (.Assign [t] e p) (tS F Wx f) := by
  have hK := ok.K
  have ihP : ∀ e f, den n c e = some f → PE X e (tE F Wx f) := fun e f h => (den_ok n c e f h X Wx ok).pe
  have ihP0 : ∀ e f, den n c e = some f → PE X e (tE F Wx0 f) := fun e f h => (den_ok n c e f h X Wx0 ok.wx0).pe
  unfold denA at h
  split at h
  · rename_i x px
    split at h
    · rename_i hr
      rw [Bool.and_eq_true] at hr
      split at h
      · rename_i i g e1 e2
        cases h
        obtain ⟨h1, h2, h3⟩ := st_ok ok e1
        exact pS_mkRow ok.nd' h1 h2 (ihP _ _ e2) (sw_none (by cases e <;> first | rfl | cases hr.2)) h3
      · cases h
    · split at h
      · rename_i hc
        split at h
        · rename_i scp es
          split at h
          · rename_i hcm
            split at h
            · rename_i i g e1 e2
              cases h
              obtain ⟨h1, h2, h3⟩ := st_ok ok e1
              cases e with
              | ListComp elt gens sc q =>
                have hsw := swN_ok (env := X.env) (scope := sc) (elt := elt) (gens := gens) (t := x) (p1 := px) (p2 := q) (l := p.line) ok.sc ok.kind
                cases hb : swN c.sc sc x px q with
                | true =>
                  rw [hb] at hsw
                  obtain ⟨tg, it, ifs, fi, t, cond, g', rfl, rfl, a1, a2, a3, a4, a5, a6, a7⟩ := lc_den ok e2
                  have hl : X.env.scope.names.lookup x = some .local := by
                    rw [ok.sc]
                    unfold swN at hb
                    simp only [Bool.and_eq_true, beq_iff_eq] at hb
                    exact hb.1.1
                  exact pS_setLc (ok.calm hcm) ok.nd' h1 hl hsw a1 a2 a3 a4 a5 a6 a7
                | false =>
                  rw [hb] at hsw
                  exact pS_asg ok.nd' h1 h2 (ihP _ _ e2) hsw h3
              | _ => cases es
            · cases h
          · cases h
        · cases h
      · rename_i hc
        split at h
        · rename_i i g e1 e2
          cases h
          obtain ⟨h1, h2, h3⟩ := st_ok ok e1
          exact pS_asg ok.nd' h1 h2 (ihP _ _ e2) (sw_none (by simpa using hc)) h3
        · cases h
  · rename_i x px ei sp
    split at h
    · cases h
    · rename_i hh
      rw [Bool.or_eq_true, not_or, Bool.not_eq_true, Bool.not_eq_true] at hh
      split at h
      · rename_i i fi fe e1 e2 e3
        cases h
        obtain ⟨h1, h2⟩ := slot_ok e1
        obtain ⟨d1, d2⟩ := dun_no hh.1
        exact pS_setI (ok.N ▸ h1) (ok.sc ▸ h2) d1 d2 (ihP _ _ e2) (ihP _ _ e3) (sub_assign hh.2) (sw_sub (l := p.line) (p := sp) (a := .Name x px) (b := ei) (env := X.env)) sws_sub rfl
      · cases h
  · rename_i ts kt pt
    split at h
    · cases h
    · rename_i hcm
      have hcm := ok.calm (by simpa using hcm)
      split at h
      · rename_i es k2 pt2
        split at h
        · cases h
        · rename_i fa ea
          have pa := denL_ok hK ihP (fun _ _ h => h) ea
          split at h
          · cases h
          · rename_i nm esw
            have hsw := swB_ok (env := X.env) (kt := kt) (k2 := k2) (pt := pt) (pt2 := pt2) ok.sc ok.kind esw
            obtain ⟨f1, f2, f3⟩ := swB_some esw
            split at h
            · rename_i t u i j en
              split at h
              · cases h
              · rename_i hij
                cases h
                obtain ⟨x, px, y, py, rfl, rfl, s1, s2⟩ := nms_two en
                have tn := two_names (l := ((([.Name x px, .Name y py] : List Expr).head?.map (·.pos.line)).getD 0)) (sc := c.sc) (ts := [.Name x px, .Name y py]) (by rw [f1, f2])
                obtain ⟨_, _, ex, lx⟩ := tn (.Name x px) (by simp)
                obtain ⟨_, _, ey, ly⟩ := tn (.Name y py) (by simp)
                cases ex; cases ey
                obtain ⟨g1, _, _⟩ := st_ok ok s1
                obtain ⟨g2, _, _⟩ := st_ok ok s2
                match es, f3 with
                | [a, b], _ =>
                  refine pS_par2 hcm ok.nd' g1 g2 (by simpa using hij) (ok.sc ▸ lx) (ok.sc ▸ ly) pa ?_
                  rw [hsw, ← f1]
                  rw [nm_all (by rw [f1, f2])]
                  rfl
            · rename_i t u v i j l en
              split at h
              · cases h
              · rename_i hij
                cases h
                simp only [Bool.or_eq_true, not_or, beq_iff_eq] at hij
                obtain ⟨x, px, y, py, z, pz, rfl, rfl, rfl, s1, s2, s3⟩ := nms_three en
                have tn := two_names (l := ((([.Name x px, .Name y py, .Name z pz] : List Expr).head?.map (·.pos.line)).getD 0)) (sc := c.sc) (ts := [.Name x px, .Name y py, .Name z pz]) (by rw [f1, f2])
                obtain ⟨_, _, ex, lx⟩ := tn (.Name x px) (by simp)
                obtain ⟨_, _, ey, ly⟩ := tn (.Name y py) (by simp)
                obtain ⟨_, _, ez, lz⟩ := tn (.Name z pz) (by simp)
                cases ex; cases ey; cases ez
                obtain ⟨g1, _, _⟩ := st_ok ok s1
                obtain ⟨g2, _, _⟩ := st_ok ok s2
                obtain ⟨g3, _, _⟩ := st_ok ok s3
                match es, f3 with
                | [a, b, d], _ =>
                  refine pS_par3 hcm ok.nd' g1 g2 g3 hij.1.1 hij.1.2 hij.2 (ok.sc ▸ lx) (ok.sc ▸ ly) (ok.sc ▸ lz) pa ?_
                  rw [hsw, ← f1]
                  rw [nm_all (by rw [f1, f2])]
                  rfl
            · cases h
          · rename_i esw
            have hsw := swB_ok (env := X.env) (kt := kt) (k2 := k2) (pt := pt) (pt2 := pt2) ok.sc ok.kind esw
            split at h
            · rename_i is en
              cases h
              obtain ⟨a1, a2, a3⟩ := nms_ok ok en
              exact pS_parN hcm pa a1 a2 a3 hsw rfl
            · split at h
              · rename_i tps et
                cases h
                obtain ⟨a1, a2, a3⟩ := tps_ok ok ihP0 et
                exact pS_store hcm pa a1 a2 a3 hsw rfl
              · cases h
      · rename_i hne
        split at h
        · rename_i is g en e2
          cases h
          obtain ⟨a1, a2, a3⟩ := nms_ok ok en
          exact pS_un hcm hK (ihP _ _ e2) a1 a2 a3 (sw_tup (l := p.line) (p := pt) (es := ts) (k := kt) (env := X.env)) (sws_tup (by cases e <;> first | rfl | exact (hne _ _ _ rfl).elim)) rfl
        · cases h
  · cases h
end
end Wk

set_option Elab.async false
set_option linter.all false
set_option maxRecDepth 100000
set_option maxHeartbeats 4000000
namespace Wk
open PySem PySem.Spec L2
section
variable {F : Fx} {k : Nat}
theorem CsOk.off {s : Cs} (h : CsOk s F) : CsOk s.off F := ⟨h.rz, h.hd⟩
theorem shrS_ok {X : Cx} {Wx : WX} {st : Stmt} {l : Option (List Nat)} {f : SmS} (h : PS X st (tS F Wx f)) : PS X st (tS F Wx (shrS l f)) := by
  cases l with
  | none => exact h
  | some is => exact pS_shr h
theorem denS_ok : ∀ (n : Nat) (s : Cs) (st : Stmt) (f : SmS), denS n s st = some f → CsOk s F → ∀ (X : Cx) (Wx : WX), SOk k s.c F Wx X → PS X st (tS F Wx f) := by
  intro n
  induction n with
  | zero => intro s st f h; simp [denS] at h
  | succ n ih =>
    intro s st f h cs X Wx sk
    unfold denS at h
    obtain ⟨f0, h0, h1⟩ := Option.map_eq_some_iff.mp h
    clear h
    subst h1
    refine shrS_ok ?_
    have h := h0; clear h0
    have ok := sk.x
    have hK := ok.K
    have ihE : ∀ e f, den n s.c e = some f → DenOk F Wx X e f := fun e f h => den_ok n s.c e f h X Wx ok
    have ihP : ∀ e f, den n s.c e = some f → PE X e (tE F Wx f) := fun e f h => (ihE e f h).pe
    have ihB : ∀ {l : List Stmt} {g : SmS}, denB (denS n s) l = some g → PSs X l (tS F Wx g) := fun {l g} h => denB_ok (fun st f h => ih s st f h cs X Wx sk) h
    unfold den0 at h
    split at h
    · cases h; exact pS_pass
    · cases h; exact pS_break
    · cases h; exact pS_continue
    · exact denE_ok ok h
    · cases h; exact pS_retN
    · obtain ⟨g, e1, rfl⟩ := Option.map_eq_some_iff.mp h
      exact pS_ret (ihP _ _ e1)
    · exact denA_ok ok h
    · split at h
      · split at h
        · rename_i e1 e2
          cases h
          obtain ⟨h1, h2, h3⟩ := st_ok ok e1
          exact pS_aug (ti := ipI fun i j => i + j) ok.nd' h1 h2 (ihP _ _ e2) _ ip_add (fun a b c e => by cases e; rfl) h3
        · cases h
      · split at h
        · rename_i e1 e2
          cases h
          obtain ⟨h1, h2, h3⟩ := st_ok ok e1
          exact pS_aug (ti := ipI fun i j => i - j) ok.nd' h1 h2 (ihP _ _ e2) _ ip_sub (fun a b c e => by cases e; rfl) h3
        · cases h
      · cases h
    · split at h
      · rename_i ht
        split at h
        · rename_i e1 e2 e3
          cases h
          exact pS_if ((ihE _ _ e1).pt ht) (ihB e2) (ihB e3)
        · cases h
      · cases h
    · split at h
      · rename_i hh
        rw [Bool.and_eq_true, Bool.not_eq_true'] at hh
        split at h
        · rename_i e1 e2 e3
          cases h
          exact pS_for sk.pass (ok.calm hh.1) (denI_ok ok ihP e1) (denTg_ok ok (ok.calm hh.1) _ _ _ e2) (ihB e3) (fun x => no_fold hh.2 x)
        · cases h
      · cases h
    · split at h
      · rename_i ht
        split at h
        · rename_i e1 e2
          cases h
          exact pS_whileE sk.pass ((ihE _ _ e1).pt ht) (ihB e2)
        · cases h
      · cases h
    · split at h
      · rename_i hh
        cases h
        simp only [Bool.and_eq_true, Bool.not_eq_true'] at hh
        obtain ⟨⟨⟨hr, hg⟩, hd⟩, hcm⟩ := hh
        obtain ⟨B, newId, initId, bmB, C, a1, a2, a3, a4, a5, a6⟩ := (cs.rz _ (by simpa using hr)).ex
        rw [← hK] at a2 a4 a5 a6
        exact pS_raise (ok.calm hcm) ok.tk (pmk_own a1 a2 (ok.mg ▸ a3) a4 (raises_own a5 a6) (gl_ok ok hg) (dun_no hd).1) a3
      · cases h
    · rename_i x px n' b₀ suite ph p
      split at h
      · rename_i hh
        simp only [Bool.and_eq_true, Bool.not_eq_true', beq_iff_eq] at hh
        obtain ⟨⟨hg, hd⟩, hl⟩ := hh
        split at h
        · rename_i ct i fb fs e1 e2 e3 e4
          cases h
          obtain ⟨cv, n1, n2⟩ := cs.hd _ _ e1
          obtain ⟨h1, h2, h3⟩ := st_ok ok e2
          refine pS_try sk.stk sk.frm hK ok.nd' h1 (by unfold Env.kindOf; rw [ok.sc]; exact hl) ⟨gl_ok ok hg, (dun_no hd).1, by rw [ok.mg]; exact n1⟩ ok.tk (fun c' b C q1 q2 => hK ▸ n2 c' b C q1 q2) (fun W pn xe tk ps => ?_) (fun a oe cls d pn _ _ => ?_)
          · exact denB_ok (fun st f h => ih s st f h cs (X.tr pn xe) W (show SOk k s.c F W (X.tr pn xe) from ⟨⟨ok.N, ok.nd, ok.sc, ok.kind, ok.fn, ok.calm, ok.K, ok.mg, tk, ok.un, ok.room, ok.fns, ok.gls, ok.bl, ok.gcd⟩, ps, sk.stk, sk.frm⟩)) e3
          · exact denB_ok (fun st f h => ih s.off st f h cs.off (X.suite a ((a, oe) :: pn)) Wx0 (show SOk k s.off.c F Wx0 (X.suite a ((a, oe) :: pn)) from ⟨⟨ok.N, ok.nd, ok.sc, ok.kind, ok.fn, (fun z => nomatch z), ok.K, ok.mg, takes0, ok.un, (fun z => nomatch z), ok.fns, ok.gls, ok.bl, ok.gcd⟩, PassesOwn.never, sk.stk, sk.frm⟩)) e4
        · cases h
      · cases h
    · cases h
theorem denSs_ok {n : Nat} {s : Cs} {l : List Stmt} {f : SmS} (h : denSs n s l = some f) (cs : CsOk s F) {X : Cx} {Wx : WX} (sk : SOk k s.c F Wx X) : PSs X l (tS F Wx f) :=
  denB_ok (fun st f h => denS_ok n s st f h cs X Wx sk) h
end
end Wk

set_option Elab.async false
set_option linter.all false
set_option maxRecDepth 100000
set_option maxHeartbeats 4000000
/-! # A def by its meaning -/
namespace Wk
open PySem PySem.Spec PyProof.Rows L2

def env0 (n : Nat) (ds : List D) : Env' := ds.map .sh ++ List.replicate (n - ds.length) .no
def outD : Option SR → Option ER
  | some (.nx _ W) => some (.val .non .sh W)
  | some (.rt d k W) => some (.val d k W)
  | some (.exc c _ W) => some (.exc c W)
  | _ => none
/-- the row is not made here -/
def same? (W : Ro) (o : Option ER) : Option ER := match W, o with
  | none, some (.val d k (some _)) => none
  | none, some (.exc c (some _)) => none
  | _, o => o
/-- a def's meaning: n slots, f its body's -/
def runDef (n : Nat) (f : SmS) : Fn := fun ds W => same? W (outD (f (env0 n ds) W))
/-- the defs that may be called -/
structure Tb (P : Program) (w : World) (K : PySem.W.Frag) (mg : Str → Option Value) (base : Heap) (k : Nat) (fns : List (Str × Nat × Fn)) : Prop where
  ok : ∀ x n f, fns.lookup x = some (n, f) → ∃ a fd ps, FnOk P w K mg base (L2.CX P w) k a fd ps (spV K mg n f) ∧ mg x = some (.ref a) ∧ PySem.W.keepIn K (.ref a) = true ∧ Binds K fd ps []
structure Gb (K : PySem.W.Frag) (mg : Str → Option Value) (c : Cfg) : Prop where
  gls : ∀ x d, c.gls.lookup x = some d → ∃ u v, mg x = some u ∧ RelV v u ∧ ∀ r Z H, Rep K r Z H d v
  bl : ∀ x, x ∈ c.bl → mg x = none
  gcd : c.gcd = true → mg "gcd" = some (.builtin "math.gcd")
structure Eb (K : PySem.W.Frag) (mg : Str → Option Value) (s : Cs) : Prop where
  rz : ∀ x ∈ s.rz, ExcF K mg x
  hd : ∀ x ct, s.hd.lookup x = some ct → ∃ cv, (mg x = some cv ∨ (mg x = none ∧ bootBuiltins x = some cv ∧ x ≠ "__name__")) ∧ ∀ c' b C, ct c' = some b → mg c' = some (.ref C) → PySem.W.exmOne K (.ref C) cv = some b
section
variable {P : Program} {w : World} {K : PySem.W.Frag} {mg : Str → Option Value} {base : Heap}
theorem Tb.nil {k : Nat} : Tb P w K mg base k [] := ⟨fun x n f h => by cases h⟩
theorem Tb.mono {j k : Nat} {fns : List (Str × Nat × Fn)} (t : Tb P w K mg base j fns) (h : j ≤ k) : Tb P w K mg base k fns := ⟨fun x n f e => by
  obtain ⟨a, fd, ps, h1, h2, h3, h4⟩ := t.ok x n f e
  exact ⟨a, fd, ps, h1.mono h, h2, h3, h4⟩⟩
theorem Tb.cons {k n : Nat} {x : Str} {f : Fn} {fns : List (Str × Nat × Fn)} {a : Addr} {fd : FuncData} {ps : List Str} (t : Tb P w K mg base k fns) (h1 : FnOk P w K mg base (L2.CX P w) k a fd ps (spV K mg n f)) (h2 : mg x = some (.ref a)) (h3 : PySem.W.keepIn K (.ref a) = true) (h4 : Binds K fd ps []) :
    Tb P w K mg base k ((x, n, f) :: fns) := ⟨fun y m g e => by
  rw [List.lookup_cons] at e
  split at e
  · rename_i hy
    have hy : y = x := by simpa using hy
    cases e; subst hy
    exact ⟨a, fd, ps, h1, h2, h3, h4⟩
  · exact t.ok y m g e⟩
theorem sim0 {r : Option Addr} {Z : Addr → Prop} {H : Hp} {ds : List D} {W : Ro} {vs : List V} {N : List Str} (c : Core ⟨K, mg, H, Z⟩ r Z H W) (q : RepL K r Z H ds vs) : Sim ⟨K, mg, H, Z⟩ r Z (L2.start N vs) H (env0 N.length ds) W := by
  have hl := q.length
  have get : ∀ {i : Nat} {s : Sl}, (env0 N.length ds)[i]? = some s → (∃ d, ds[i]? = some d ∧ s = .sh d) ∨ s = .no := by
    intro i s h
    unfold env0 at h
    rw [List.getElem?_append] at h
    split at h
    · rw [List.getElem?_map] at h
      cases e : ds[i]? with
      | none => rw [e] at h; cases h
      | some d => rw [e] at h; cases h; exact .inl ⟨d, rfl, rfl⟩
    · rw [List.getElem?_replicate] at h
      split at h
      · cases h; exact .inr rfl
      · cases h
  refine ⟨c, ?_, fun i d h => ?_, fun i d h => ?_, fun i j d e a h1 => ?_⟩
  · unfold L2.start env0
    simp [hl]
  · rcases get h with ⟨d', e, e2⟩ | e
    · cases e2
      obtain ⟨v, ev, qv⟩ := q.get e
      refine ⟨v, ?_, qv⟩
      unfold L2.start
      have hi : i < vs.length := (List.getElem?_eq_some_iff.mp ev).1
      rw [List.getElem?_append_left (by simpa using hi), List.getElem?_map, ev]
      rfl
    · cases e
  · rcases get h with ⟨d', e, e2⟩ | e
    · cases e2
    · cases e
  · rcases get h1 with ⟨d', e, e2⟩ | e
    · cases e2
    · cases e
theorem row_same {F : Fx} {r r' : Option Addr} {Z Z' : Addr → Prop} {H H' : Hp} {W W' : Ro} (c : Core F r Z H W) (c' : Core F r' Z' H' W') (h : ∀ a, r = some a → r' = some a) (hw : W = none → W' = none) : r' = r := by
  cases W with
  | some l =>
    obtain ⟨a, vs, e, _⟩ := c.row
    rw [e, h a e]
  | none =>
    have e1 : r = none := c.row
    have := hw rfl
    subst this
    have e2 : r' = none := c'.row
    rw [e1, e2]
/-- what a def's body needs of the place in which it runs -/
theorem sok_of {qual : Str} {N : List Str} {sc : Scope} {s : Cs} {k : Nat} {f : Addr} {cdv : Value} {A : Around} {outer : List Env} {sh : Shared} {H : Hp} {Z : Addr → Prop} {E : XK} (hN : s.c.N = N) (hnd : N.Nodup) (hsc : s.c.sc = sc) (hk : sc.kind = .function) (hr : Room k (A.deeper (envOfC qual sc sh.heap.objs.size f cdv)))
    (T : Tb P w K mg base k s.c.fns) (G : Gb K mg s.c) : SOk k s.c ⟨K, mg, H, Z⟩ (fun cls d _ H => E cls d H) (cxOf (L2.CX P w) P w K mg base N qual sc f cdv A outer sh H E) where
  x := {
    N := hN.symm
    nd := hN ▸ hnd
    sc := hsc.symm
    kind := by rw [hsc]; exact hk
    fn := fun _ _ => rfl
    calm := fun _ => rfl
    K := rfl
    mg := rfl
    tk := takes_of rfl rfl rfl rfl
    un := by have := hr.un; show (A.deeper (envOfC qual sc sh.heap.objs.size f cdv)).units + 65 < cLine; omega
    room := fun _ => hr
    fns := T.ok
    gls := G.gls
    bl := G.bl
    gcd := G.gcd }
  pass := passes_of rfl
  stk := rfl
  frm := rfl
/-- THE RULE -/
theorem fn_den {x qual : Str} {st : Stmt} {f : Addr} {fd : FuncData} {N ps : List Str} {k m : Nat} {s : Cs} {g : SmS} (F : Fun K x qual st f fd) (S : FnScope N ps (defScope st)) (hN : s.c.N = N) (hsc : s.c.sc = defScope st)
    (T : Tb P w K mg base k s.c.fns) (G : Gb K mg s.c) (E : Eb K mg s) (hd : denSs m s (defBody st) = some g) : FnOk P w K mg base (L2.CX P w) (k + 1) f fd ps (spV K mg ps.length (runDef N.length g)) := by
  refine F.okX S (fun vs H Q E h => h.1) fun cdv A outer sh H vs Q Ex hr h => ?_
  obtain ⟨hl, Z, r, ds, W, c, q, h⟩ := h
  have sk := sok_of (E := Ex) (Z := Z) (H := H) (outer := outer) hN S.nd hsc S.kind hr T G
  refine ⟨_, denSs_ok (F := ⟨K, mg, H, Z⟩) hd ⟨E.rz, E.hd⟩ sk, r, Z, _, W, sim0 c q, ?_⟩
  unfold runDef at h
  have hw : ∀ {o : ER}, same? W (outD (g (env0 N.length ds) W)) = some o → outD (g (env0 N.length ds) W) = some o := by
    intro o h
    unfold same? at h
    split at h
    · cases h
    · cases h
    · exact h
  cases e : g (env0 N.length ds) W with
  | none => rw [e] at h; cases W <;> exact h.elim
  | some o =>
    rw [e] at h
    cases o with
    | nx ρ' W' =>
      intro r' σ' H' Z' s' sp
      have hw : W = none → W' = none := by
        rintro rfl
        cases W' with
        | none => rfl
        | some l => exact h.elim
      have er := row_same c s'.core sp.rw hw
      subst er
      have h : ∀ v H' Z', Core ⟨K, mg, H, Z⟩ r' Z' H' W' → (∀ b, Z b → Z' b) → RetOk ⟨K, mg, H, Z⟩ r' Z' H' .sh .non v → Q v H' := by
        cases W with
        | some l => exact h
        | none => rw [hw rfl] at h ⊢; exact h
      exact h .non H' Z' s'.core sp.sub (by simp [RetOk, Rep])
    | bk ρ' W' => cases W <;> exact h.elim
    | ct ρ' W' => cases W <;> exact h.elim
    | rt d kd W' =>
      intro r' v H' Z' s' sp rk
      have hw : W = none → W' = none := by
        rintro rfl
        cases W' with
        | none => rfl
        | some l => exact h.elim
      have er := row_same c s' sp.rw hw
      subst er
      have h : ∀ v H' Z', Core ⟨K, mg, H, Z⟩ r' Z' H' W' → (∀ b, Z b → Z' b) → RetOk ⟨K, mg, H, Z⟩ r' Z' H' kd d v → Q v H' := by
        cases W with
        | some l => exact h
        | none => rw [hw rfl] at h ⊢; exact h
      exact h v H' Z' s' sp.sub rk
    | exc cn ρ' W' =>
      intro r' σ' H' Z' C s' sp hm
      have hw : W = none → W' = none := by
        rintro rfl
        cases W' with
        | none => rfl
        | some l => exact h.elim
      have er := row_same c s'.core sp.rw hw
      subst er
      have h : ∀ H' Z' C, Core ⟨K, mg, H, Z⟩ r' Z' H' W' → (∀ b, Z b → Z' b) → mg cn = some (.ref C) → Ex (.ref C) none H' := by
        cases W with
        | some l => exact h
        | none => rw [hw rfl] at h ⊢; exact h
      exact h H' Z' C s'.core sp.sub hm
/-- the law -/
def spTop (K : PySem.W.Frag) (n : Nat) : Sp := fun vs H Q _ => ∃ (a : Addr) (ns : List Int), vs = [.ref a] ∧ SqL K H a (ns.map V.int) ∧ ns.length ≤ n ∧ ∀ H', Q (.bl true) H'
theorem law_den {x qual px : Str} {st : Stmt} {f : Addr} {fd : FuncData} {N : List Str} {k m n : Nat} {s : Cs} {g : SmS} (F : Fun K x qual st f fd) (S : FnScope N [px] (defScope st)) (hN : s.c.N = N) (hsc : s.c.sc = defScope st)
    (T : Tb P w K mg base k s.c.fns) (G : Gb K mg s.c) (E : Eb K mg s) (hd : denSs m s (defBody st) = some g) (hg : ∀ ns : List Int, ns.length ≤ n → ∃ W, g (env0 N.length [.scr ns]) none = some (.rt (.bl true) .sh W)) :
    FnOk P w K mg base (L2.CX P w) (k + 1) f fd [px] (spTop K n) := by
  refine F.okX S (fun vs H Q E h => by obtain ⟨a, ns, rfl, _⟩ := h; rfl) fun cdv A outer sh H vs Q Ex hr h => ?_
  obtain ⟨a, ns, rfl, hS, hl, h⟩ := h
  obtain ⟨W', eg⟩ := hg ns hl
  have go : ∀ Z : Addr → Prop, (∀ b, Z b → ∃ o, H b = some o) → ((Z a ∧ Rd H a (.lst (ns.map V.int))) ∨ ∀ H', SqL K H' a (ns.map V.int)) →
      ∃ t, PSs (cxOf (L2.CX P w) P w K mg base N qual (defScope st) f cdv A outer sh H Ex) (defBody st) t ∧ t { nx := fun _ H' => Q .non H', rt := Q } (L2.start N [.ref a]) H := by
    intro Z hz hr2
    have sk := sok_of (E := Ex) (Z := Z) (H := H) (outer := outer) hN S.nd hsc S.kind hr T G
    have c : Core ⟨K, mg, H, Z⟩ none Z H none := ⟨fun b o e _ => e, fun b z => ⟨hz b z, fun e => nomatch e⟩, fun b z => .inl z, rfl⟩
    have q : RepL K none Z H [.scr ns] [.ref a] := RepL.cons (by simp only [Rep]; exact ⟨a, rfl, hr2⟩) RepL.nil
    refine ⟨_, denSs_ok (F := ⟨K, mg, H, Z⟩) hd ⟨E.rz, E.hd⟩ sk, none, Z, _, none, sim0 c q, ?_⟩
    rw [eg]
    intro r' v H' Z' s' sp rk
    have : v = .bl true := by simpa [RetOk, Rep] using rk
    subst this
    exact h H'
  rcases hS with hS | hS
  · refine go (fun b => b = a) (fun b z => ?_) (.inl ⟨rfl, hS⟩)
    subst z
    rcases hS with hS | ⟨o, hS⟩
    · exact ⟨_, hS⟩
    · exact ⟨_, hS⟩
  · exact go (fun _ => False) (fun b z => z.elim) (.inr fun H' => .inr hS)
end
end Wk

set_option Elab.async false
set_option linter.all false
set_option maxRecDepth 100000
set_option maxHeartbeats 4000000
/-! # The end -/
namespace Wk
open PySem PySem.Spec PyProof.Rows L2
abbrev pSub : Ro → D → D → Option (D × Kd) := i2 fun a b => some (a - b)
abbrev pDiv : Ro → D → D → Option (D × Kd) := i2 gDiv
abbrev pMod : Ro → D → D → Option (D × Kd) := i2 gMod
abbrev pPow : Ro → D → D → Option (D × Kd) := i2 gPow
abbrev pLt : Ro → D → D → Option (D × Kd) := b2 fun i j => decide (i < j)
abbrev pLe : Ro → D → D → Option (D × Kd) := b2 fun i j => decide (i ≤ j)
abbrev pGt : Ro → D → D → Option (D × Kd) := b2 fun i j => decide (j < i)
abbrev pGe : Ro → D → D → Option (D × Kd) := b2 fun i j => decide (j ≤ i)
abbrev pEqs : Ro → D → D → Option (D × Kd) := pEq false
abbrev pNes : Ro → D → D → Option (D × Kd) := pEq true
abbrev pIs : Ro → D → D → Option (D × Kd) := pIsN false
abbrev pIsnt : Ro → D → D → Option (D × Kd) := pIsN true
abbrev pIns : Ro → D → D → Option (D × Kd) := pIn false
abbrev pNins : Ro → D → D → Option (D × Kd) := pIn true
theorem gl_tup {K : PySem.W.Frag} {r : Option Addr} {Z : Addr → Prop} {H : Hp} {t : Addr} {ud : Option Addr} {its : Array Value} {un : Nat} {us : Array (Option Value)} {ds : List D} {vs : List V} (o : K.lookup t = some ⟨.type "tuple", ud, .seq its un, us⟩) (_ : its = its) (hs : its.size ≤ sizeLine) (hv : Vals vs its.toList) (hr : RepL K r Z H ds vs) :
    Rep K r Z H (.tup ds) (.ref t) := by
  simp only [Rep]
  exact ⟨t, vs, rfl, .inr ⟨_, its, un, o, rfl, rfl, hs, hv⟩, hr⟩
theorem exm_of {K : PySem.W.Frag} {S T : Addr} {b : Bool} (h1 : PySem.W.subIn K (.ref T) (.type "BaseException") = some true) (h2 : PySem.W.isClsIn K T = true) (h3 : PySem.W.typeIn K (.ref T) = some (.type "type")) (h4 : PySem.W.subIn K (.ref S) (.ref T) = some b) :
    PySem.W.exmOne K (.ref S) (.ref T) = some b := by
  have e1 : (PySem.W.subIn K (.ref T) (.type "BaseException") == some true) = true := by rw [h1] <;> rfl
  have e2 : ((PySem.W.clsIn K T).isSome && PySem.W.typeIn K (.ref T) == some (.type "type")) = true := by
    have h2' : (PySem.W.clsIn K T).isSome = true := h2
    rw [h2', h3] <;> rfl
  show (if (PySem.W.subIn K (.ref T) (.type "BaseException") == some true) = true then (if ((PySem.W.clsIn K T).isSome && PySem.W.typeIn K (.ref T) == some (.type "type")) = true then PySem.W.subIn K (.ref S) (.ref T) else none) else none) = some b
  rw [if_pos e1, if_pos e2]
  exact h4
/-- the law row's walk -/
theorem walk_law {l : PySem.W.OpenLaw} {n k : Nat} {q : Program} {loose : List Str} {XP : (Str → Option Value) → Heap → Prop} {YP : World → Heap → Prop} {d : DefRec} {x : Str} {K : Params → PySem.W.Frag} (hn : l.most = some n) (hl : n ≤ sizeLine) (hdf : d.params.defaults = []) (hr : Room k callerA)
    (hY : ∀ (w : World) (h : Heap), YP w h → (K w.params).In h)
    (F : ∀ (w : World) (mg : Str → Option Value) (fa : Addr) (h : Heap), (K w.params).In h → h.Ns mainGlobals mg → mg d.name = some (.ref fa) →
      ∃ fd : FuncData, (∀ (s : Shared) (u : Value), BindsTo s fd ⟨[u], []⟩ [(x, u)]) ∧ ∀ base : Heap, (K w.params).In base → base.Ns mainGlobals mg → FnOk l.prog w (K w.params) mg base (L2.CX l.prog w) k fa fd [x] (spTop (K w.params) n)) :
    PySem.W.WalkO q loose XP YP l.row.toRowW d [] (fun f vs => PySem.call f vs) :=
  L2.walk_of (n := n) (k := k) (x := x) (CX := fun w => L2.CX l.prog w) (sp := fun w => spTop (K w.params) n) hn hl hdf hr hY F (fun _ _ a ns hl _ hS => ⟨a, ns, rfl, hS, hl, fun _ => rfl⟩) fun _ _ _ _ _ z => by
    obtain ⟨_, _, _, _, _, _, _, _, _, _, _, _, z⟩ := z
    exact z
end Wk

set_option Elab.async false
set_option linter.all false
set_option maxRecDepth 100000
set_option maxHeartbeats 4000000
/-! # Reckoning with meanings; rationals -/
namespace Wk
open PySem PySem.Spec

/-! ### combinators, applied -/
section
variable {f g h : Sm} {F G : SmS} {L M : SmL} {ρ : Env'} {W : Ro} {d : D} {k : Kd} {i : Nat}
@[simp] theorem ap_bind {b : D → Kd → Sm} : cBind f b ρ W = match f ρ W with | none => none | some (.exc c W') => some (.exc c W') | some (.val d k W') => b d k ρ W' := rfl
@[simp] theorem ap_val {o : Option (D × Kd)} : cVal o ρ W = o.map fun p => .val p.1 p.2 W := rfl
@[simp] theorem ap_var : cVar i ρ W = match ρ[i]? with | some (.sh d) => some (.val d .sh W) | some (.ow d) => some (.val d .bo W) | _ => none := rfl
@[simp] theorem ap_c : cC d ρ W = some (.val d .sh W) := rfl
@[simp] theorem ap_fr : cFr f ρ W = match f ρ W with | none => none | some (.exc c W') => some (.exc c W') | some (.val d k W') => if k = .bo then none else some (.val d .sh W') := by
  unfold cFr cBind
  cases f ρ W with
  | none => rfl
  | some o => cases o with
    | exc c w => rfl
    | val d k w => cases k <;> rfl
@[simp] theorem ap_c1 {p : D → Option (D × Kd)} : c1 p f ρ W = match f ρ W with | none => none | some (.exc c W') => some (.exc c W') | some (.val d _ W') => (p d).map fun q => .val q.1 q.2 W' := rfl
@[simp] theorem ap_c2 {p : Ro → D → D → Option (D × Kd)} : c2 p f g ρ W = match f ρ W with | none => none | some (.exc c W') => some (.exc c W') | some (.val d _ W') => match g ρ W' with | none => none | some (.exc c W2) => some (.exc c W2) | some (.val e _ W2) => (p W2 d e).map fun q => .val q.1 q.2 W2 := rfl
@[simp] theorem ap_if : cIf f g h ρ W = match f ρ W with | none => none | some (.exc c W') => some (.exc c W') | some (.val (.bl true) _ W') => g ρ W' | some (.val (.bl false) _ W') => h ρ W' | _ => none := by
  unfold cIf cBind
  cases f ρ W with
  | none => rfl
  | some o => cases o with
    | exc c w => rfl
    | val d k w => cases d <;> first | rfl | (rename_i b; cases b <;> rfl)
@[simp] theorem ap_and : cAnd f g ρ W = match f ρ W with | none => none | some (.exc c W') => some (.exc c W') | some (.val (.bl true) _ W') => g ρ W' | some (.val (.bl false) _ W') => some (.val (.bl false) .sh W') | _ => none := by
  unfold cAnd cBind
  cases f ρ W with
  | none => rfl
  | some o => cases o with
    | exc c w => rfl
    | val d k w => cases d <;> first | rfl | (rename_i b; cases b <;> rfl)
@[simp] theorem ap_or : cOr f g ρ W = match f ρ W with | none => none | some (.exc c W') => some (.exc c W') | some (.val (.bl true) _ W') => some (.val (.bl true) .sh W') | some (.val (.bl false) _ W') => g ρ W' | _ => none := by
  unfold cOr cBind
  cases f ρ W with
  | none => rfl
  | some o => cases o with
    | exc c w => rfl
    | val d k w => cases d <;> first | rfl | (rename_i b; cases b <;> rfl)
@[simp] theorem ap_not : cNot f ρ W = match f ρ W with | none => none | some (.exc c W') => some (.exc c W') | some (.val (.bl b) _ W') => some (.val (.bl !b) .sh W') | _ => none := by
  unfold cNot cBind
  cases f ρ W with
  | none => rfl
  | some o => cases o with
    | exc c w => rfl
    | val d k w => cases d <;> rfl
@[simp] theorem ap_nil : cNil ρ W = some (.vals [] W) := rfl
@[simp] theorem ap_cons : cCons f L ρ W = match f ρ W with | none => none | some (.exc c W') => some (.exc c W') | some (.val d k W') => match L ρ W' with | none => none | some (.exc c W2) => some (.exc c W2) | some (.vals l W2) => some (.vals ((d, k) :: l) W2) := rfl
@[simp] theorem ap_star : cStar f L ρ W = match cFr f ρ W with | none => none | some (.exc c W') => some (.exc c W') | some (.val d _ W') => match seqOf d with | none => none | some ds => match L ρ W' with | none => none | some (.exc c W'') => some (.exc c W'') | some (.vals l W'') => some (.vals (ds.map (fun d => (d, .sh)) ++ l) W'') := rfl
@[simp] theorem ap_tup : cTup L ρ W = match L ρ W with | none => none | some (.exc c W') => some (.exc c W') | some (.vals l W') => match shs l with | none => none | some ds => if ds.length ≤ lim then some (.val (.tup ds) .sh W') else none := by
  unfold cTup cBindL
  cases L ρ W with
  | none => rfl
  | some o => cases o with
    | exc c w => rfl
    | vals l w =>
      dsimp only
      cases shs l with
      | none => rfl
      | some ds => unfold cVal; dsimp only [Option.bind]; split <;> rfl
@[simp] theorem ap_lst : cLst L ρ W = match L ρ W with | none => none | some (.exc c W') => some (.exc c W') | some (.vals l W') => match shs l with | none => none | some ds => if ds.length ≤ lim then some (.val (.lst ds) .fr W') else none := by
  unfold cLst cBindL
  cases L ρ W with
  | none => rfl
  | some o => cases o with
    | exc c w => rfl
    | vals l w =>
      dsimp only
      cases shs l with
      | none => rfl
      | some ds => unfold cVal; dsimp only [Option.bind]; split <;> rfl
@[simp] theorem ap_L {p : List D → Option (D × Kd)} : cL p L ρ W = match L ρ W with | none => none | some (.exc c W') => some (.exc c W') | some (.vals l W') => (p (l.map (·.1))).map fun q => .val q.1 q.2 W' := rfl
@[simp] theorem ap_call {fn : Fn} : cCall fn L ρ W = match L ρ W with | none => none | some (.exc c W') => some (.exc c W') | some (.vals l W') => match shs l with | none => none | some ds => match fn ds W' with | some (.val d .bo W'') => none | o => o := rfl
@[simp] theorem ap_nx : cNx ρ W = some (.nx ρ W) := rfl
@[simp] theorem ap_seq : cSeq F G ρ W = match F ρ W with | some (.nx ρ' W') => G ρ' W' | o => o := rfl
@[simp] theorem ap_sbind {b : D → Kd → SmS} : sBind f b ρ W = match f ρ W with | none => none | some (.exc c W') => some (.exc c ρ W') | some (.val d k W') => b d k ρ W' := rfl
@[simp] theorem ap_ifs : cIfS f F G ρ W = match f ρ W with | none => none | some (.exc c W') => some (.exc c ρ W') | some (.val (.bl b) _ W') => (if b then F else G) ρ W' | _ => none := by
  unfold cIfS sBind
  cases f ρ W with
  | none => rfl
  | some o => cases o with
    | exc c w => rfl
    | val d k w => cases d <;> rfl
@[simp] theorem ap_expr : cExpr f ρ W = match f ρ W with | none => none | some (.exc c W') => some (.exc c ρ W') | some (.val d k W') => some (.nx ρ W') := rfl
@[simp] theorem ap_ret : cRet f ρ W = match f ρ W with | none => none | some (.exc c W') => some (.exc c ρ W') | some (.val d k W') => some (.rt d (if k = .sh then .sh else .fr) W') := rfl
@[simp] theorem ap_retN : cRetN ρ W = some (.rt .non .sh W) := rfl
@[simp] theorem ap_asg : cAsg i f ρ W = match f ρ W with | none => none | some (.exc c W') => some (.exc c ρ W') | some (.val d k W') => (put i d k ρ).map fun ρ' => .nx ρ' W' := rfl
@[simp] theorem ap_raise {c : Str} : cRaise c ρ W = some (.exc c ρ W) := rfl
@[simp] theorem put_sh : put i d .sh ρ = some (ρ.set i (.sh d)) := rfl
@[simp] theorem put_fr : put i d .fr ρ = some (ρ.set i (.ow d)) := rfl
@[simp] theorem shs_nil : shs [] = some [] := rfl
@[simp] theorem shs_cons {l : List (D × Kd)} : shs ((d, .sh) :: l) = (shs l).map (d :: ·) := rfl
@[simp] theorem ap_par {is : List Nat} : cPar is L ρ W = match L ρ W with | none => none | some (.exc c W') => some (.exc c ρ W') | some (.vals l W') => if l.length ≤ lim then (putAll is l ρ).map fun ρ' => .nx ρ' W' else none := rfl
@[simp] theorem putAll_nil : putAll [] [] ρ = some ρ := rfl
@[simp] theorem putAll_sh {is : List Nat} {l : List (D × Kd)} : putAll (i :: is) ((d, .sh) :: l) ρ = putAll is l (ρ.set i (.sh d)) := rfl
@[simp] theorem putAll_fr {is : List Nat} {l : List (D × Kd)} : putAll (i :: is) ((d, .fr) :: l) ρ = putAll is l (ρ.set i (.ow d)) := rfl
@[simp] theorem ap_un {is : List Nat} : cUn is f ρ W = match f ρ W with | none => none | some (.exc c W') => some (.exc c ρ W') | some (.val (.tup ds) _ W') => (putAll is (ds.map fun d => (d, .sh)) ρ).map fun ρ' => .nx ρ' W' | _ => none := by
  unfold cUn sBind
  cases f ρ W with
  | none => rfl
  | some o => cases o with
    | exc c w => rfl
    | val d k w => cases d <;> rfl
@[simp] theorem ap_for {t : Tg} {it : SmI} : cFor t it F ρ W = match it ρ W with | none => none | some (.exc c W') => some (.exc c ρ W') | some (.its l W') => forN t F l ρ W' := rfl
@[simp] theorem ap_comp {vs : List Nat} {t : Tg} {it : SmI} : cComp vs t it f g ρ W = match it ρ W with | none => none | some (.exc c W') => some (.exc c W') | some (.its l W') => if l.length ≤ lim then (lcN t f g (wipeR ρ vs) l W').map fun p => .val (.lst p.1) .fr p.2 else none := rfl
@[simp] theorem ap_seqI : cSeqI f ρ W = match cFr f ρ W with | none => none | some (.exc c W') => some (.exc c W') | some (.val d _ W') => (seqOf d).map fun l => .its l W' := rfl
@[simp] theorem ap_rng1 : cRng1 L ρ W = match L ρ W with | some (.vals [(.int j, _)] W') => if small62 j then some (.its (rangeD 0 j.toNat) W') else none | some (.exc c W') => some (.exc c W') | _ => none := rfl
@[simp] theorem ap_rng2 : cRng2 L ρ W = match L ρ W with | some (.vals [(.int i, _), (.int j, _)] W') => if small62 i && small62 j then some (.its (rangeD i (j - i).toNat) W') else none | some (.exc c W') => some (.exc c W') | _ => none := rfl
@[simp] theorem ap_zip : cZip L ρ W = match L ρ W with | none => none | some (.exc c W') => some (.exc c W') | some (.vals l W') => match shs l with | none => none | some ds => (seqsOf ds).map fun ls => .its (zipD ls) W' := rfl
@[simp] theorem wipe_nil : wipeR ρ [] = ρ := rfl
@[simp] theorem wipe_cons {vs : List Nat} : wipeR ρ (i :: vs) = (wipeR ρ vs).set i .no := rfl
@[simp] theorem tg_nm : aTg (.nm i) d ρ = some (ρ.set i (.sh d)) := by simp [aTg]
@[simp] theorem tg_tp {ts : List Tg} {ds : List D} : aTg (.tp ts) (.tup ds) ρ = aTgs ts ds ρ := by simp [aTg]
@[simp] theorem tgs_nil : aTgs [] [] ρ = some ρ := by simp [aTgs]
@[simp] theorem tgs_cons {t : Tg} {ts : List Tg} {ds : List D} : aTgs (t :: ts) (d :: ds) ρ = match aTg t d ρ with | none => none | some ρ' => aTgs ts ds ρ' := by simp only [aTgs] <;> (cases aTg t d ρ <;> rfl)
@[simp] theorem ap_shr {is : List Nat} : cShr is F ρ W = F (shareAll is ρ) W := rfl
@[simp] theorem i2_ii {o : Int → Int → Option Int} {a b : Int} : i2 o W (.int a) (.int b) = (o a b).map fun c => (.int c, .sh) := rfl
@[simp] theorem b2_ii {o : Int → Int → Bool} {a b : Int} : b2 o W (.int a) (.int b) = some (.bl (o a b), .sh) := rfl
@[simp] theorem add_ii {a b : Int} : pAdd W (.int a) (.int b) = some (.int (a + b), .sh) := rfl
@[simp] theorem neg_i {a : Int} : pNeg (.int a) = some (.int (-a), .sh) := rfl
theorem mul_ii {a b : Int} (h : a.natAbs.log2 + b.natAbs.log2 < 1000000) : pMul W (.int a) (.int b) = some (.int (a * b), .sh) := by
  unfold pMul mulOk
  simp [h]
@[simp] theorem gcd_ii {a b : Int} : pGcd [.int a, .int b] = some (.int ((Nat.gcd a.natAbs b.natAbs : Nat) : Int), .sh) := rfl
theorem gDiv_of {a b : Int} (h : b ≠ 0) (h2 : b.natAbs.log2 < 9000) : gDiv a b = some (a.fdiv b) := if_pos ⟨h, h2⟩
theorem gMod_of {a b : Int} (h : b ≠ 0) : gMod a b = some (a.fmod b) := if_pos h
@[simp] theorem idx_tup {l : List D} {j : Int} : pIdx W (.tup l) (.int j) = (L2.atI l j).map fun d => (d, .sh) := rfl
@[simp] theorem idx_lst {l : List D} {j : Int} : pIdx W (.lst l) (.int j) = (L2.atI l j).map fun d => (d, .sh) := rfl
@[simp] theorem idx_scr {l : List Int} {j : Int} : pIdx W (.scr l) (.int j) = (L2.atI l j).map fun d => (.int d, .sh) := rfl
@[simp] theorem idx_row {l : List D} {j : Int} : pIdx (some l) .row (.int j) = (L2.atI l j).map fun d => (d, .sh) := rfl
@[simp] theorem len_tup {l : List D} : pLen [.tup l] = some (.int l.length, .sh) := rfl
@[simp] theorem len_lst {l : List D} : pLen [.lst l] = some (.int l.length, .sh) := rfl
@[simp] theorem len_scr {l : List Int} : pLen [.scr l] = some (.int l.length, .sh) := rfl
@[simp] theorem tuple_lst {l : List D} : pTuple [.lst l] = some (.tup l, .sh) := rfl
@[simp] theorem tuple_tup {l : List D} : pTuple [.tup l] = some (.tup l, .sh) := rfl
@[simp] theorem list_lst {l : List D} : pList [.lst l] = some (.lst l, .fr) := rfl
@[simp] theorem list_tup {l : List D} : pList [.tup l] = some (.lst l, .fr) := rfl
@[simp] theorem int_int {a : Int} : pInt [.int a] = some (.int a, .sh) := rfl
@[simp] theorem max_ii {a b : Int} : pMax [.int a, .int b] = some (.int (if b > a then b else a), .sh) := rfl
@[simp] theorem min_ii {a b : Int} : pMin [.int a, .int b] = some (.int (if b < a then b else a), .sh) := rfl
@[simp] theorem seq_tup {l : List D} : seqOf (.tup l) = some l := rfl
@[simp] theorem seq_lst {l : List D} : seqOf (.lst l) = some l := rfl
end
@[simp] theorem same_val {W : Ro} {d : D} {k : Kd} : same? W (some (.val d k W)) = some (.val d k W) := by cases W <;> rfl
@[simp] theorem same_exc {W : Ro} {c : Str} : same? W (some (.exc c W)) = some (.exc c W) := by cases W <;> rfl
@[simp] theorem same_some {l : List D} {o : Option ER} : same? (some l) o = o := rfl
@[simp] theorem out_rt {d : D} {k : Kd} {W : Ro} : outD (some (.rt d k W)) = some (.val d k W) := rfl
@[simp] theorem out_nx {ρ : Env'} {W : Ro} : outD (some (.nx ρ W)) = some (.val .non .sh W) := rfl
@[simp] theorem out_exc {c : Str} {ρ : Env'} {W : Ro} : outD (some (.exc c ρ W)) = some (.exc c W) := rfl
theorem at_nat {α : Type} {l : List α} {i : Nat} : L2.atI l (i : Int) = l[i]? := by
  unfold L2.atI L2.ixN
  by_cases h : i < l.length
  · rw [if_pos (by omega), if_pos (by omega)]; rfl
  · rw [if_pos (by omega), if_neg (by omega), List.getElem?_eq_none (by omega)]; rfl
@[simp] theorem at_0 {α : Type} {l : List α} : L2.atI l 0 = l[0]? := at_nat (i := 0)
@[simp] theorem at_1 {α : Type} {l : List α} : L2.atI l 1 = l[1]? := at_nat (i := 1)
@[simp] theorem at_2 {α : Type} {l : List α} : L2.atI l 2 = l[2]? := at_nat (i := 2)
@[simp] theorem at_3 {α : Type} {l : List α} : L2.atI l 3 = l[3]? := at_nat (i := 3)

/-! ### rationals -/
def enc (r : Rat) : D := .tup [.int r.num, .int r.den]
/-- of at most n binary digits -/
def Sz (n : Nat) (r : Rat) : Prop := r.num.natAbs < 2 ^ n ∧ r.den < 2 ^ n
theorem log2_of {a n : Nat} (h : a < 2 ^ n) (hn : 0 < n) : a.log2 < n := by
  by_cases h0 : a = 0
  · subst h0; simpa using hn
  · exact (Nat.log2_lt h0).mpr h
theorem Sz.mono {n m : Nat} {r : Rat} (h : Sz n r) (hm : n ≤ m) : Sz m r := ⟨Nat.lt_of_lt_of_le h.1 (Nat.pow_le_pow_right (by omega) hm), Nat.lt_of_lt_of_le h.2 (Nat.pow_le_pow_right (by omega) hm)⟩
theorem divInt_num_le (a b : Int) : (Rat.divInt a b).num.natAbs ≤ a.natAbs := by
  rw [Rat.num_divInt]
  have h1 : (b.sign * a / (b.gcd a : Int)).natAbs ≤ (b.sign * a).natAbs := by
    by_cases h : b.gcd a = 0
    · rw [h]; simp
    · rw [Int.natAbs_ediv_of_dvd]
      · exact Nat.div_le_self _ _
      · exact Int.dvd_trans (Int.gcd_dvd_right ..) (Int.dvd_mul_left _ _)
  refine Nat.le_trans h1 ?_
  rw [Int.natAbs_mul]
  have : b.sign.natAbs ≤ 1 := by
    rcases Int.lt_trichotomy b 0 with h | h | h
    · rw [Int.sign_eq_neg_one_of_neg h]; decide
    · rw [h]; decide
    · rw [Int.sign_eq_one_of_pos h]; decide
  calc b.sign.natAbs * a.natAbs ≤ 1 * a.natAbs := Nat.mul_le_mul_right _ this
    _ = a.natAbs := Nat.one_mul _
theorem divInt_den_le (a b : Int) (hb : b ≠ 0) : (Rat.divInt a b).den ≤ b.natAbs := by
  rw [Rat.den_divInt, if_neg hb]
  exact Nat.div_le_self _ _
theorem Sz.divInt {n : Nat} {a b : Int} (ha : a.natAbs < 2 ^ n) (hb : b.natAbs < 2 ^ n) (h0 : b ≠ 0) : Sz n (Rat.divInt a b) :=
  ⟨Nat.lt_of_le_of_lt (divInt_num_le a b) ha, Nat.lt_of_le_of_lt (divInt_den_le a b h0) hb⟩
/-- what is divided by the signed greatest common part -/
theorem low_ok {a b p : Int} (hb : b ≠ 0) (hp : p = if b < 0 then -((Nat.gcd a.natAbs b.natAbs : Nat) : Int) else ((Nat.gcd a.natAbs b.natAbs : Nat) : Int)) : a.fdiv p = (Rat.divInt a b).num ∧ b.fdiv p = (Rat.divInt a b).den := by
  have hg : (b.gcd a : Int) = ((Nat.gcd a.natAbs b.natAbs : Nat) : Int) := by
    unfold Int.gcd
    rw [Nat.gcd_comm]
  have da : (b.gcd a : Int) ∣ a := Int.gcd_dvd_right ..
  have db : (b.gcd a : Int) ∣ b := Int.gcd_dvd_left ..
  rw [← hg] at hp
  rw [Rat.num_divInt, Rat.den_divInt, if_neg hb]
  by_cases h : b < 0
  · rw [if_pos h] at hp
    subst hp
    rw [Int.sign_eq_neg_one_of_neg h, Int.fdiv_eq_ediv_of_dvd (Int.neg_dvd.mpr da), Int.fdiv_eq_ediv_of_dvd (Int.neg_dvd.mpr db), Int.ediv_neg, Int.ediv_neg]
    refine ⟨?_, ?_⟩
    · rw [Int.neg_one_mul, Int.neg_ediv_of_dvd da]
    · rw [← Int.neg_ediv_of_dvd db, Int.natCast_ediv, show -b = (b.natAbs : Int) by omega]
  · rw [if_neg h] at hp
    subst hp
    have h' : 0 < b := by omega
    rw [Int.sign_eq_one_of_pos h', Int.fdiv_eq_ediv_of_dvd da, Int.fdiv_eq_ediv_of_dvd db]
    refine ⟨by rw [Int.one_mul], ?_⟩
    rw [Int.natCast_ediv, show (b.natAbs : Int) = b by omega]
theorem den_pos (r : Rat) : 0 < (r.den : Int) := by have := r.den_pos; omega
theorem mul_divInt (a b : Rat) : a * b = Rat.divInt (a.num * b.num) (a.den * b.den) := by
  rw [Rat.mul_def', ← Rat.divInt_ofNat]; simp
theorem add_divInt (a b : Rat) : a + b = Rat.divInt (a.num * b.den + b.num * a.den) (a.den * b.den) := by
  rw [Rat.add_def', ← Rat.divInt_ofNat]; simp
theorem sub_divInt (a b : Rat) : a - b = Rat.divInt (a.num * b.den - b.num * a.den) (a.den * b.den) := by
  rw [Rat.sub_def', ← Rat.divInt_ofNat]; simp
theorem div_divInt (a b : Rat) : a / b = Rat.divInt (a.num * b.den) (a.den * b.num) := by
  rw [Rat.div_def, Rat.inv_def]
  conv => lhs; rw [← Rat.num_divInt_den a]
  rw [Rat.divInt_mul_divInt]
theorem log_mul {a b : Int} {n m : Nat} (ha : a.natAbs < 2 ^ n) (hb : b.natAbs < 2 ^ m) (h : n + m < 900000) : a.natAbs.log2 + b.natAbs.log2 < 1000000 := by
  have h1 := log2_of (n := n + 1) (Nat.lt_of_lt_of_le ha (Nat.pow_le_pow_right (by omega) (by omega))) (by omega)
  have h2 := log2_of (n := m + 1) (Nat.lt_of_lt_of_le hb (Nat.pow_le_pow_right (by omega) (by omega))) (by omega)
  omega
theorem mul_lt {a b n m : Nat} (ha : a < 2 ^ n) (hb : b < 2 ^ m) : a * b < 2 ^ (n + m) := by
  rw [Nat.pow_add]
  exact Nat.mul_lt_mul_of_lt_of_lt ha hb
theorem Sz.mul {n m : Nat} {a b : Rat} (ha : Sz n a) (hb : Sz m b) : Sz (n + m) (a * b) := by
  rw [mul_divInt]
  refine Sz.divInt ?_ ?_ ?_
  · rw [Int.natAbs_mul]; exact mul_lt ha.1 hb.1
  · rw [Int.natAbs_mul]; exact mul_lt ha.2 hb.2
  · have := den_pos a; have := den_pos b
    exact Int.ne_of_gt (Int.mul_pos (den_pos a) (den_pos b))
theorem sum_lt {a b : Int} {n : Nat} (ha : a.natAbs < 2 ^ n) (hb : b.natAbs < 2 ^ n) : (a + b).natAbs < 2 ^ (n + 1) := by
  rw [Nat.pow_succ]; omega
theorem Sz.add {n m : Nat} {a b : Rat} (ha : Sz n a) (hb : Sz m b) : Sz (n + m + 1) (a + b) := by
  rw [add_divInt]
  refine Sz.divInt (sum_lt ?_ ?_) ?_ ?_
  · rw [Int.natAbs_mul]; exact mul_lt ha.1 hb.2
  · rw [Int.natAbs_mul, Nat.add_comm]; exact mul_lt hb.1 ha.2
  · rw [Int.natAbs_mul]; exact Nat.lt_of_lt_of_le (mul_lt ha.2 hb.2) (Nat.pow_le_pow_right (by omega) (by omega))
  · exact Int.ne_of_gt (Int.mul_pos (den_pos a) (den_pos b))
theorem Sz.sub {n m : Nat} {a b : Rat} (ha : Sz n a) (hb : Sz m b) : Sz (n + m + 1) (a - b) := by
  rw [sub_divInt]
  refine Sz.divInt ?_ ?_ ?_
  · have h1 := mul_lt ha.1 hb.2
    have h2 := mul_lt hb.1 ha.2
    have e : a.num * b.den - b.num * a.den = a.num * b.den + -(b.num * a.den) := Int.sub_eq_add_neg
    rw [e]
    refine sum_lt ?_ ?_
    · rw [Int.natAbs_mul]; exact h1
    · rw [Int.natAbs_neg, Int.natAbs_mul, Nat.add_comm]; exact h2
  · rw [Int.natAbs_mul]; exact Nat.lt_of_lt_of_le (mul_lt ha.2 hb.2) (Nat.pow_le_pow_right (by omega) (by omega))
  · exact Int.ne_of_gt (Int.mul_pos (den_pos a) (den_pos b))
theorem Sz.div {n m : Nat} {a b : Rat} (ha : Sz n a) (hb : Sz m b) (h : b ≠ 0) : Sz (n + m) (a / b) := by
  have h0 : b.num ≠ 0 := fun e => h (Rat.num_eq_zero.mp e)
  rw [div_divInt]
  refine Sz.divInt ?_ ?_ ?_
  · rw [Int.natAbs_mul]; exact mul_lt ha.1 hb.2
  · rw [Int.natAbs_mul]; exact mul_lt ha.2 hb.1
  · have := den_pos a
    exact Int.mul_ne_zero (by omega) h0
@[simp] theorem idx_e0 {W : Ro} {r : Rat} : pIdx W (enc r) (.int 0) = some (.int r.num, .sh) := by simp [enc]
@[simp] theorem idx_e1 {W : Ro} {r : Rat} : pIdx W (enc r) (.int 1) = some (.int r.den, .sh) := by simp [enc]
theorem gcd_lt {a b : Int} {n : Nat} (hb : b ≠ 0) (h : b.natAbs < 2 ^ n) (hn : 0 < n) (hn2 : n ≤ 9000) : ((Nat.gcd a.natAbs b.natAbs : Nat) : Int).natAbs.log2 < 9000 := by
  have : Nat.gcd a.natAbs b.natAbs ≤ b.natAbs := Nat.gcd_le_right _ (by omega)
  have := log2_of (n := n) (a := ((Nat.gcd a.natAbs b.natAbs : Nat) : Int).natAbs) (by rw [Int.natAbs_natCast]; omega) hn
  omega
theorem gcd_ne {a b : Int} (hb : b ≠ 0) : ((Nat.gcd a.natAbs b.natAbs : Nat) : Int) ≠ 0 := by
  have := Nat.gcd_pos_of_pos_right (m := a.natAbs) (n := b.natAbs) (by omega)
  omega
theorem enc_inj {a b : Rat} (h : enc a = enc b) : a = b := by
  unfold enc at h
  simp only [D.tup.injEq, List.cons.injEq, D.int.injEq, and_true] at h
  exact Rat.ext h.1 (by omega)
end Wk

set_option Elab.async false
set_option linter.all false
set_option maxRecDepth 100000
set_option maxHeartbeats 4000000
/-! # == , comprehensions, loops: laws -/
namespace Wk
open PySem PySem.Spec
@[simp] theorem eqD_ii {neg : Bool} {a b : Int} : eqD neg (.int a) (.int b) = some (if neg then !decide (a = b) else decide (a = b)) := by
  simp [eqD, toPy, SeqAt.shaped, PyData.eqv, PyData.canLay0, PyData.depth, Bool.beq_eq_decide_eq]
@[simp] theorem pEq_ii {neg : Bool} {a b : Int} {W : Ro} : pEq neg W (.int a) (.int b) = some (.bl (if neg then !decide (a = b) else decide (a = b)), .sh) := by simp [pEq]
def pyQ (r : Rat) : PyData := .tuple [.int r.num, .int r.den]
theorem toPy_enc {r : Rat} : toPy (enc r) = some (pyQ r) := by simp [enc, toPy, toPyL, pyQ]
theorem toPyL_enc : ∀ {l : List Rat}, toPyL (l.map enc) = some (l.map pyQ)
  | [] => by simp [toPyL]
  | r :: l => by simp [toPyL, toPy_enc, toPyL_enc]
theorem eqv_q {a b : Rat} : PyData.eqv (pyQ a) (pyQ b) = decide (a = b) := by
  simp only [pyQ, PyData.eqv, PyData.eqvAll, Bool.and_true, Bool.beq_eq_decide_eq]
  rw [Bool.eq_iff_iff]
  simp only [Bool.and_eq_true, decide_eq_true_eq, beq_iff_eq]
  constructor
  · rintro ⟨h1, h2⟩
    exact Rat.ext h1 (by omega)
  · rintro rfl
    exact ⟨rfl, rfl⟩
theorem eqvAll_q : ∀ {a b : List Rat}, PyData.eqvAll (a.map pyQ) (b.map pyQ) = decide (a = b)
  | [], [] => by simp [PyData.eqvAll]
  | [], _ :: _ => by simp [PyData.eqvAll]
  | _ :: _, [] => by simp [PyData.eqvAll]
  | x :: a, y :: b => by
    simp only [List.map_cons, PyData.eqvAll, eqv_q, eqvAll_q]
    rw [Bool.eq_iff_iff]
    simp
theorem shp_q {r : Rat} : PyData.canLay0 (pyQ r) = true ∧ PyData.depth (pyQ r) ≤ 3 := by
  simp [pyQ, PyData.canLay0, PyData.canLayAll0, PyData.depth, PyData.depthAll]
theorem shpAll_q : ∀ {l : List Rat}, PyData.canLayAll0 (l.map pyQ) = true ∧ PyData.depthAll (l.map pyQ) ≤ 3
  | [] => by simp [PyData.canLayAll0, PyData.depthAll]
  | r :: l => by
    have h1 := @shp_q r
    have h2 := @shpAll_q l
    simp only [List.map_cons, PyData.canLayAll0, PyData.depthAll, h1.1, h2.1, Bool.and_self, true_and]
    omega
@[simp] theorem eqD_enc {neg : Bool} {a b : Rat} : eqD neg (enc a) (enc b) = some (if neg then !decide (a = b) else decide (a = b)) := by
  have h := fun r => @shp_q r
  have s : ∀ r, SeqAt.shaped (pyQ r) = true := fun r => by
    unfold SeqAt.shaped
    rw [(h r).1, Bool.true_and]
    have := (h r).2
    exact decide_eq_true (by omega)
  simp [eqD, toPy_enc, s, eqv_q]
@[simp] theorem eqD_lst {neg : Bool} {a b : List Rat} : eqD neg (.lst (a.map enc)) (.lst (b.map enc)) = some (if neg then !decide (a = b) else decide (a = b)) := by
  have s : ∀ l : List Rat, SeqAt.shaped (.list (l.map pyQ)) = true := fun l => by
    have := @shpAll_q l
    unfold SeqAt.shaped
    rw [PyData.canLay0, PyData.depth, this.1, Bool.true_and]
    exact decide_eq_true (by omega)
  simp [eqD, toPy, toPyL_enc, s, PyData.eqv, eqvAll_q]
theorem shpAll_i : ∀ {l : List Nat}, toPyL (l.map fun (i : Nat) => D.int i) = some (l.map fun (i : Nat) => PyData.int i) ∧ PyData.canLayAll0 (l.map fun (i : Nat) => PyData.int i) = true ∧ PyData.depthAll (l.map fun (i : Nat) => PyData.int i) ≤ 1
  | [] => by simp [PyData.canLayAll0, PyData.depthAll, toPyL]
  | r :: l => by
    have h2 := @shpAll_i l
    simp only [List.map_cons, PyData.canLayAll0, PyData.depthAll, h2.2.1, toPyL, toPy, h2.1, PyData.canLay0, PyData.depth, Bool.and_self, true_and]
    omega
/-- against the empty list -/
theorem eqD_nil {neg : Bool} {l : List Nat} : eqD neg (.lst (l.map fun (i : Nat) => D.int i)) (.lst []) = some (if neg then !l.isEmpty else l.isEmpty) := by
  have h := @shpAll_i l
  have s : SeqAt.shaped (.list (l.map fun (i : Nat) => PyData.int i)) = true := by
    unfold SeqAt.shaped
    rw [PyData.canLay0, PyData.depth, h.2.1, Bool.true_and]
    exact decide_eq_true (by omega)
  have s0 : SeqAt.shaped (.list []) = true := by decide
  have e : PyData.eqvAll (l.map fun (i : Nat) => PyData.int i) [] = l.isEmpty := by cases l <;> simp [PyData.eqvAll]
  simp [eqD, toPy, h.1, toPyL, s, s0, PyData.eqv, e]
/-! ### comprehensions -/
theorem lcN_map {α : Type} {t : Tg} {elt : Sm} {ρ0 : Env'} {W : Ro} {e f : α → D} : ∀ {l : List α}, (∀ x ∈ l, ∃ ρ1 k, aTg t (e x) ρ0 = some ρ1 ∧ cFr elt ρ1 W = some (.val (f x) k W)) → lcN t (cC (.bl true)) elt ρ0 (l.map e) W = some (l.map f, W)
  | [], _ => rfl
  | x :: l, h => by
    obtain ⟨ρ1, k, h1, h2⟩ := h x (by simp)
    have ih := lcN_map (l := l) fun y hy => h y (by simp [hy])
    rw [List.map_cons, lcN, h1]
    dsimp only [ap_c]
    rw [h2]
    dsimp only
    rw [ih]
    rfl
theorem lcN_filter {α : Type} {t : Tg} {elt cond : Sm} {ρ0 : Env'} {W : Ro} {e f : α → D} {b : α → Bool} : ∀ {l : List α}, (∀ x ∈ l, ∃ ρ1 k k', aTg t (e x) ρ0 = some ρ1 ∧ cond ρ1 W = some (.val (.bl (b x)) k' W) ∧ cFr elt ρ1 W = some (.val (f x) k W)) → lcN t cond elt ρ0 (l.map e) W = some ((l.filter b).map f, W)
  | [], _ => rfl
  | x :: l, h => by
    obtain ⟨ρ1, k, k', h1, h3, h2⟩ := h x (by simp)
    have ih := lcN_filter (l := l) fun y hy => h y (by simp [hy])
    rw [List.map_cons, lcN, h1]
    dsimp only
    rw [h3]
    cases hb : b x with
    | true =>
      dsimp only
      rw [h2]
      dsimp only
      rw [ih, List.filter_cons, hb]
      rfl
    | false =>
      dsimp only
      rw [ih, List.filter_cons, hb]
      rfl
/-- elements that draw -/
theorem lcN_draw {β : Type} {t : Tg} {elt : Sm} {ρ0 : Env'} {I : Ro → Prop} {P : β → Prop} {e : β → D} : ∀ {l : List D} {W : Ro}, I W → (∀ d ∈ l, ∀ W, I W → ∃ ρ1 x k W', aTg t d ρ0 = some ρ1 ∧ cFr elt ρ1 W = some (.val (e x) k W') ∧ P x ∧ I W') →
    ∃ (xs : List β) (W' : Ro), lcN t (cC (.bl true)) elt ρ0 l W = some (xs.map e, W') ∧ I W' ∧ xs.length = l.length ∧ ∀ x ∈ xs, P x
  | [], W, i, _ => ⟨[], W, rfl, i, rfl, by simp⟩
  | d :: l, W, i, h => by
    obtain ⟨ρ1, x, k, W1, h1, h2, p, i1⟩ := h d (by simp) W i
    obtain ⟨xs, W2, e2, i2, hl, hp⟩ := lcN_draw (l := l) i1 fun y hy => h y (by simp [hy])
    refine ⟨x :: xs, W2, ?_, i2, by simp [hl], fun y hy => ?_⟩
    · rw [lcN, h1]
      dsimp only [ap_c]
      rw [h2]
      dsimp only
      rw [e2]
      rfl
    · rcases List.mem_cons.mp hy with rfl | hy
      · exact p
      · exact hp y hy
/-! ### loops -/
theorem forN_inv {α : Type} {t : Tg} {g : SmS} {e : α → D} {I : List α → Env' → Ro → Prop} : ∀ {l : List α} {ρ : Env'} {W : Ro}, I l ρ W → (∀ x l ρ W, I (x :: l) ρ W → ∃ ρ1 ρ2 W2, aTg t (e x) ρ = some ρ1 ∧ g ρ1 W = some (.nx ρ2 W2) ∧ I l ρ2 W2) → ∃ ρ' W', forN t g (l.map e) ρ W = some (.nx ρ' W') ∧ I [] ρ' W'
  | [], ρ, W, i, _ => ⟨ρ, W, rfl, i⟩
  | x :: l, ρ, W, i, h => by
    obtain ⟨ρ1, ρ2, W2, h1, h2, i2⟩ := h x l ρ W i
    obtain ⟨ρ', W', e1, i'⟩ := forN_inv i2 h
    refine ⟨ρ', W', ?_, i'⟩
    rw [List.map_cons, forN]
    dsimp only
    rw [h1]
    dsimp only
    rw [h2]
    exact e1
theorem forN_at {α : Type} {t : Tg} {g : SmS} {e : α → D} {I : Nat → Env' → Ro → Prop} : ∀ {l : List α} {j : Nat} {ρ : Env'} {W : Ro}, I j ρ W → (∀ k x, l[k]? = some x → ∀ ρ W, I (j + k) ρ W → ∃ ρ1 ρ2 W2, aTg t (e x) ρ = some ρ1 ∧ g ρ1 W = some (.nx ρ2 W2) ∧ I (j + k + 1) ρ2 W2) → ∃ ρ' W', forN t g (l.map e) ρ W = some (.nx ρ' W') ∧ I (j + l.length) ρ' W'
  | [], j, ρ, W, i, _ => ⟨ρ, W, rfl, i⟩
  | x :: l, j, ρ, W, i, h => by
    obtain ⟨ρ1, ρ2, W2, h1, h2, i2⟩ := h 0 x rfl ρ W i
    obtain ⟨ρ', W', e1, i'⟩ := forN_at (l := l) (j := j + 1) i2 fun k y hy ρ W i => by
      have := h (k + 1) y hy ρ W (by rw [show j + (k + 1) = j + 1 + k by omega]; exact i)
      rw [show j + (k + 1) + 1 = j + 1 + k + 1 by omega] at this
      exact this
    refine ⟨ρ', W', ?_, by rw [List.length_cons, show j + (l.length + 1) = j + 1 + l.length by omega]; exact i'⟩
    rw [List.map_cons, forN]
    dsimp only
    rw [h1]
    dsimp only
    rw [h2]
    exact e1
theorem forN_range {t : Tg} {g : SmS} {n : Nat} {I : Nat → Env' → Ro → Prop} {ρ : Env'} {W : Ro} (h0 : I 0 ρ W) (h : ∀ k, k < n → ∀ ρ W, I k ρ W → ∃ ρ1 ρ2 W2, aTg t (.int (k : Nat)) ρ = some ρ1 ∧ g ρ1 W = some (.nx ρ2 W2) ∧ I (k + 1) ρ2 W2) :
    ∃ ρ' W', forN t g ((List.range n).map fun (i : Nat) => D.int i) ρ W = some (.nx ρ' W') ∧ I n ρ' W' := by
  have := @forN_at Nat t g (fun (i : Nat) => D.int i) I (List.range n) 0 ρ W h0 fun k x hx ρ W i => by
    have hk : k < n := by have := (List.getElem?_eq_some_iff.mp hx).1; simpa using this
    rw [List.getElem?_range hk] at hx
    cases hx
    rw [Nat.zero_add] at i ⊢
    exact h k hk ρ W i
  simpa using this
theorem range0 {n : Nat} : rangeD 0 n = (List.range n).map fun (i : Nat) => D.int i := by
  unfold rangeD
  congr 1
  funext i
  rw [Int.zero_add]
theorem range_from {a n : Nat} : rangeD a n = (List.range' a n).map fun (i : Nat) => D.int i := by
  unfold rangeD
  rw [List.range'_eq_map_range, List.map_map]
  rfl
theorem zip_two {α β : Type} {e : α → D} {e' : β → D} {a : List α} {b : List β} : zipD [a.map e, b.map e'] = (List.zip a b).map fun p => .tup [e p.1, e' p.2] := by
  unfold zipD
  apply List.ext_getElem
  · simp [minLen]
  · intro i h1 h2
    have h3 : i < min a.length b.length := by simpa using h2
    have h4 : i < a.length := by omega
    have h5 : i < b.length := by omega
    simp [h4, h5]
theorem small_nat {n : Nat} (h : n ≤ 1000000) : small62 (n : Int) = true := by
  unfold small62
  exact decide_eq_true (by omega)
theorem fit_range {m : Nat} (h : m ≤ 1000) : (List.map (fun (i : Nat) => D.int i) (List.range m)).length ≤ lim := by
  unfold lim; simp; omega
theorem rng_ok {L : SmL} {ρ : Env'} {W W' : Ro} {m : Nat} {k : Kd} (h : L ρ W = some (.vals [(.int m, k)] W')) (hm : m ≤ 1000) : cRng1 L ρ W = some (.its ((List.range m).map fun (i : Nat) => D.int i) W') := by
  have hm' : small62 (m : Int) = true := small_nat (by omega)
  rw [ap_rng1, h]
  simp only [hm', if_true]
  rw [show ((m : Int)).toNat = m from rfl, range0]
theorem comp_ok {vs : List Nat} {t : Tg} {it : SmI} {c e : Sm} {ρ : Env'} {W W1 W2 : Ro} {l xs : List D} (h : it ρ W = some (.its l W1)) (hl : l.length ≤ 1000) (h2 : lcN t c e (wipeR ρ vs) l W1 = some (xs, W2)) : cComp vs t it c e ρ W = some (.val (.lst xs) .fr W2) := by
  rw [ap_comp, h]
  dsimp only
  rw [if_pos (by unfold lim; omega), h2]
  rfl
theorem shr_cons {i : Nat} {is : List Nat} {ρ : Env'} : shareAll (i :: is) ρ = shareAll is (match ρ[i]? with | some (.ow d) => ρ.set i (.sh d) | _ => ρ) := rfl
@[simp] theorem shr_nil {ρ : Env'} : shareAll [] ρ = ρ := rfl
theorem shs_pre {l : List D} {r : List (D × Kd)} : shs (l.map (fun d => (d, Kd.sh)) ++ r) = (shs r).map (l ++ ·) := by
  induction l with
  | nil => simp
  | cons d l ih =>
    rw [List.map_cons, List.cons_append, shs_cons, ih]
    cases shs r <;> rfl
theorem app_ok {i : Nat} {f : Sm} {ρ : Env'} {W W' : Ro} {l : List D} {d : D} {k : Kd} (h : ρ[i]? = some (.ow (.lst l))) (hf : cFr f ρ W = some (.val d k W')) (hl : l.length + 1 < 1000000) : cApp i f ρ W = some (.nx (ρ.set i (.ow (.lst (l ++ [d])))) W') := by
  have hk : k = .sh := by
    rw [ap_fr] at hf
    split at hf
    · cases hf
    · cases hf
    · split at hf
      · cases hf
      · cases hf; rfl
  subst hk
  unfold cApp heldL
  rw [h]
  simp only [if_true, ap_sbind, hf, onSh, appI, h, List.length_cons, List.length_nil, lim, Nat.zero_add, if_pos hl, Option.map_some]
theorem seq_nx {F G : SmS} {ρ ρ' : Env'} {W W' : Ro} (h : F ρ W = some (.nx ρ' W')) : cSeq F G ρ W = G ρ' W' := by rw [ap_seq, h]
theorem for_nx {t : Tg} {it : SmI} {F : SmS} {ρ ρ' : Env'} {W W1 W' : Ro} {l : List D} (h : it ρ W = some (.its l W1)) (h2 : forN t F l ρ W1 = some (.nx ρ' W')) : cFor t it F ρ W = some (.nx ρ' W') := by rw [ap_for, h]; exact h2
theorem map_get {α β : Type} [Inhabited α] {l : List α} {f : α → β} {k : Nat} (d : α) (h : k < l.length) : (l.map f)[k]? = some (f (l.getD k d)) := by
  rw [List.getElem?_map, List.getElem?_eq_getElem h, List.getD_eq_getElem?_getD, List.getElem?_eq_getElem h]; rfl
end Wk

set_option Elab.async false
set_option linter.all false
set_option maxRecDepth 100000
set_option maxHeartbeats 4000000
/-! # Tables of rationals in steps -/
namespace Km
abbrev Row := List Rat
abbrev Mat := List Row
def rw_ (M : Mat) (i : Nat) : Row := M.getD i []
def ent (M : Mat) (i c : Nat) : Rat := (M.getD i []).getD c 0
def axpy (n : Rat) (x y : Row) : Row := List.zipWith (fun a b => a - b * n) x y
def divs (f : Rat) (r : Row) : Row := r.map (· / f)
def swp (M : Mat) (i j : Nat) : Mat := (M.set i (M.getD j [])).set j (M.getD i [])
def clr1 (M : Mat) (at_ c p : Nat) : Mat := if p ≠ at_ ∧ ent M p c ≠ 0 then M.set p (axpy (ent M p c) (M.getD p []) (M.getD at_ [])) else M
def clr (at_ c : Nat) : List Nat → Mat → Mat
  | [], M => M
  | p :: ps, M => clr at_ c ps (clr1 M at_ c p)
def places (M : Mat) (at_ c : Nat) : List Nat := (List.range' at_ (M.length - at_)).filter fun p => decide (ent M p c ≠ 0)
def stp1 (M : Mat) (at_ c p : Nat) : Mat :=
  let M1 := swp M at_ p
  let M2 := M1.set at_ (divs (ent M1 at_ c) (M1.getD at_ []))
  clr at_ c (List.range M2.length) M2
def stp (M : Mat) (at_ c : Nat) : Option Mat := match places M at_ c with
  | [] => none
  | p :: _ => some (stp1 M at_ c p)
def run : List Nat → Mat → List Nat → Mat × List Nat
  | [], M, cs => (M, cs)
  | c :: r, M, cs => match stp M cs.length c with
    | none => run r M cs
    | some M' => run r M' (cs ++ [c])

/-! ### shapes -/
def Shp (M : Mat) (w : Nat) : Prop := ∀ r ∈ M, r.length = w
theorem axpy_len {n : Rat} {x y : Row} {w : Nat} (hx : x.length = w) (hy : y.length = w) : (axpy n x y).length = w := by simp [axpy, hx, hy]
theorem getD_mem {M : Mat} {i : Nat} (h : i < M.length) : M.getD i [] ∈ M := by
  rw [List.getD_eq_getElem?_getD, List.getElem?_eq_getElem h]; exact List.getElem_mem h
theorem Shp.get {M : Mat} {w i : Nat} (s : Shp M w) (h : i < M.length) : (M.getD i []).length = w := s _ (getD_mem h)
theorem Shp.set {M : Mat} {w i : Nat} {r : Row} (s : Shp M w) (h : r.length = w) : Shp (M.set i r) w := fun x hx => by
  rcases List.mem_or_eq_of_mem_set hx with h1 | h1
  · exact s x h1
  · rw [h1]; exact h
theorem getD_set {M : Mat} {i j : Nat} {r : Row} : (M.set i r).getD j [] = if i = j ∧ i < M.length then r else M.getD j [] := by
  simp only [List.getD_eq_getElem?_getD]
  by_cases h : i = j
  · subst h
    by_cases hl : i < M.length
    · rw [List.getElem?_set_self hl, if_pos ⟨rfl, hl⟩]; rfl
    · rw [if_neg (by simp [hl]), List.set_eq_of_length_le (by omega)]
  · rw [List.getElem?_set_ne h, if_neg (by simp [h])]
theorem swp_len {M : Mat} {i j : Nat} : (swp M i j).length = M.length := by simp [swp]
theorem swp_get {M : Mat} {i j k : Nat} (hi : i < M.length) (hj : j < M.length) : (swp M i j).getD k [] = if k = j then M.getD i [] else if k = i then M.getD j [] else M.getD k [] := by
  unfold swp
  rw [getD_set, getD_set]
  simp only [List.length_set]
  by_cases h1 : k = j
  · subst h1; simp [hj]
  · rw [if_neg (by intro e; exact h1 e.1.symm), if_neg h1]
    by_cases h2 : k = i
    · subst h2; simp [hi]
    · rw [if_neg (by intro e; exact h2 e.1.symm), if_neg h2]
theorem Shp.swp {M : Mat} {w i j : Nat} (s : Shp M w) (hi : i < M.length) (hj : j < M.length) : Shp (swp M i j) w := (s.set (s.get hj)).set (s.get hi)
theorem clr1_len {M : Mat} {a c p : Nat} : (clr1 M a c p).length = M.length := by unfold clr1; split <;> simp
theorem Shp.clr1 {M : Mat} {w a c p : Nat} (s : Shp M w) (ha : a < M.length) (hp : p < M.length) : Shp (clr1 M a c p) w := by
  unfold Km.clr1
  split
  · exact s.set (axpy_len (s.get hp) (s.get ha))
  · exact s
theorem clr_len {a c : Nat} : ∀ {ps : List Nat} {M : Mat}, (clr a c ps M).length = M.length
  | [], _ => rfl
  | p :: ps, M => by unfold clr; rw [clr_len, clr1_len]
theorem Shp.clr {w a c : Nat} : ∀ {ps : List Nat} {M : Mat}, Shp M w → a < M.length → (∀ p ∈ ps, p < M.length) → Shp (clr a c ps M) w
  | [], _, s, _, _ => s
  | p :: ps, M, s, ha, hp => by
    unfold Km.clr
    exact Shp.clr (s.clr1 ha (hp p (by simp))) (by rw [clr1_len]; exact ha) fun q hq => by rw [clr1_len]; exact hp q (by simp [hq])
theorem stp1_len {M : Mat} {a c p : Nat} : (stp1 M a c p).length = M.length := by simp [stp1, clr_len, swp_len]
theorem Shp.stp1 {M : Mat} {w a c p : Nat} (s : Shp M w) (ha : a < M.length) (hp : p < M.length) : Shp (stp1 M a c p) w := by
  unfold Km.stp1
  have s1 := s.swp ha hp
  have l1 : (Km.swp M a p).length = M.length := swp_len
  refine Shp.clr (s1.set ?_) (by simp [swp_len, ha]) (by simp)
  unfold divs
  rw [List.length_map]
  exact s1.get (by rw [l1]; exact ha)
theorem places_mem {M : Mat} {a c p : Nat} (h : p ∈ places M a c) : a ≤ p ∧ p < M.length ∧ ent M p c ≠ 0 := by
  unfold places at h
  rw [List.mem_filter, List.mem_range'_1] at h
  obtain ⟨⟨h1, h2⟩, h3⟩ := h
  exact ⟨h1, by omega, by simpa using h3⟩
theorem places_nil {M : Mat} {a c p : Nat} (h : places M a c = []) (h1 : a ≤ p) (h2 : p < M.length) : ent M p c = 0 := by
  unfold places at h
  rw [List.filter_eq_nil_iff] at h
  have := h p (List.mem_range'_1.mpr ⟨h1, by omega⟩)
  simpa using this

/-! ### what is linear -/
structure Lin (w : Nat) (L : Row → Rat) : Prop where
  ax : ∀ (x y : Row) (n : Rat), x.length = w → y.length = w → L (axpy n x y) = L x - L y * n
  dv : ∀ (x : Row) (f : Rat), x.length = w → L (divs f x) = L x / f
theorem getD_axpy {x y : Row} {n : Rat} {c w : Nat} (hx : x.length = w) (hy : y.length = w) : (axpy n x y).getD c 0 = x.getD c 0 - y.getD c 0 * n := by
  unfold axpy
  simp only [List.getD_eq_getElem?_getD, List.getElem?_zipWith]
  by_cases h : c < w
  · rw [List.getElem?_eq_getElem (by omega), List.getElem?_eq_getElem (by omega)]; rfl
  · rw [List.getElem?_eq_none (by omega), List.getElem?_eq_none (by omega)]
    simp only [Option.getD_none]
    grind
theorem getD_divs {x : Row} {f : Rat} {c : Nat} : (divs f x).getD c 0 = x.getD c 0 / f := by
  unfold divs
  simp only [List.getD_eq_getElem?_getD, List.getElem?_map]
  by_cases h : c < x.length
  · rw [List.getElem?_eq_getElem h]; rfl
  · rw [List.getElem?_eq_none (by omega)]
    simp only [Option.map_none, Option.getD_none]
    rw [Rat.div_def, Rat.zero_mul]
theorem Lin.get {w c : Nat} : Lin w fun r => r.getD c 0 := ⟨fun _ _ _ hx hy => getD_axpy hx hy, fun _ _ _ => getD_divs⟩
theorem Lin.zero {w : Nat} : Lin w fun _ => 0 := ⟨fun _ _ _ _ _ => by grind, fun _ _ _ => by rw [Rat.div_def, Rat.zero_mul]⟩
theorem Lin.sub {w : Nat} {L L' : Row → Rat} (h : Lin w L) (h' : Lin w L') : Lin w fun r => L r - L' r :=
  ⟨fun x y n hx hy => by rw [h.ax x y n hx hy, h'.ax x y n hx hy]; grind, fun x f hx => by rw [h.dv x f hx, h'.dv x f hx]; simp only [Rat.div_def]; grind⟩
theorem Lin.add {w : Nat} {L L' : Row → Rat} (h : Lin w L) (h' : Lin w L') : Lin w fun r => L r + L' r :=
  ⟨fun x y n hx hy => by rw [h.ax x y n hx hy, h'.ax x y n hx hy]; grind, fun x f hx => by rw [h.dv x f hx, h'.dv x f hx]; simp only [Rat.div_def]; grind⟩
theorem Lin.mul {w : Nat} {L : Row → Rat} (a : Rat) (h : Lin w L) : Lin w fun r => L r * a :=
  ⟨fun x y n hx hy => by rw [h.ax x y n hx hy]; grind, fun x f hx => by rw [h.dv x f hx]; simp only [Rat.div_def]; grind⟩
def sumN : Nat → (Nat → Rat) → Rat
  | 0, _ => 0
  | n + 1, f => sumN n f + f n
theorem Lin.sum {w : Nat} {L : Nat → Row → Rat} : ∀ {n : Nat}, (∀ i, i < n → Lin w (L i)) → Lin w fun r => sumN n fun i => L i r
  | 0, _ => Lin.zero
  | n + 1, h => Lin.add (Lin.sum fun i hi => h i (by omega)) (h n (by omega))
def Ann (L : Row → Rat) (M : Mat) : Prop := ∀ i, i < M.length → L (M.getD i []) = 0
theorem ann_swp {L : Row → Rat} {M : Mat} {i j : Nat} (hi : i < M.length) (hj : j < M.length) : Ann L (swp M i j) ↔ Ann L M := by
  constructor
  · intro h k hk
    by_cases h1 : k = i
    · subst h1
      have := h j (by rw [swp_len]; exact hj)
      rw [swp_get hi hj, if_pos rfl] at this
      exact this
    · by_cases h2 : k = j
      · subst h2
        have := h i (by rw [swp_len]; exact hi)
        rw [swp_get hi hj, if_neg (fun e => h1 e.symm), if_pos rfl] at this
        exact this
      · have := h k (by rw [swp_len]; exact hk)
        rw [swp_get hi hj, if_neg h2, if_neg h1] at this
        exact this
  · intro h k hk
    rw [swp_len] at hk
    rw [swp_get hi hj]
    split
    · exact h i hi
    · split
      · exact h j hj
      · exact h k hk
theorem ann_div {w : Nat} {L : Row → Rat} {M : Mat} {i : Nat} {f : Rat} (l : Lin w L) (s : Shp M w) (hi : i < M.length) (hf : f ≠ 0) : Ann L (M.set i (divs f (M.getD i []))) ↔ Ann L M := by
  have e : L (divs f (M.getD i [])) = L (M.getD i []) / f := l.dv _ _ (s.get hi)
  constructor
  · intro h k hk
    have := h k (by simpa using hk)
    rw [getD_set] at this
    split at this
    · rename_i hh
      rw [e] at this
      rw [← hh.1]
      have := congrArg (· * f) this
      simp only [Rat.div_mul_cancel hf, Rat.zero_mul] at this
      exact this
    · exact this
  · intro h k hk
    rw [getD_set]
    split
    · rw [e, h i hi, Rat.div_def, Rat.zero_mul]
    · exact h k (by simpa using hk)
theorem ann_clr1 {w : Nat} {L : Row → Rat} {M : Mat} {a c p : Nat} (l : Lin w L) (s : Shp M w) (ha : a < M.length) (hp : p < M.length) : Ann L (clr1 M a c p) ↔ Ann L M := by
  unfold clr1
  split
  · rename_i hh
    have e := l.ax (M.getD p []) (M.getD a []) (ent M p c) (s.get hp) (s.get ha)
    have ga : ∀ r, (M.set p r).getD a [] = M.getD a [] := fun r => by rw [getD_set, if_neg (by intro e; exact hh.1 e.1)]
    constructor
    · intro h k hk
      have ea := h a (by simpa using ha)
      rw [ga] at ea
      have := h k (by simpa using hk)
      rw [getD_set] at this
      split at this
      · rename_i h2
        rw [e, ea] at this
        rw [← h2.1]
        grind
      · exact this
    · intro h k hk
      rw [getD_set]
      split
      · rw [e, h a ha, h p hp]; grind
      · exact h k (by simpa using hk)
  · exact Iff.rfl
theorem ann_clr {w : Nat} {L : Row → Rat} {a c : Nat} (l : Lin w L) : ∀ {ps : List Nat} {M : Mat}, Shp M w → a < M.length → (∀ p ∈ ps, p < M.length) → (Ann L (clr a c ps M) ↔ Ann L M)
  | [], _, _, _, _ => Iff.rfl
  | p :: ps, M, s, ha, hp => by
    unfold clr
    have hpl := hp p (by simp)
    rw [ann_clr l (s.clr1 ha hpl) (by rw [clr1_len]; exact ha) (fun q hq => by rw [clr1_len]; exact hp q (by simp [hq])), ann_clr1 l s ha hpl]
theorem ann_stp1 {w : Nat} {L : Row → Rat} {M : Mat} {a c p : Nat} (l : Lin w L) (s : Shp M w) (ha : a < M.length) (hp : p < M.length) (he : ent M p c ≠ 0) : Ann L (stp1 M a c p) ↔ Ann L M := by
  unfold stp1
  have s1 := s.swp ha hp
  have l1 : (swp M a p).length = M.length := swp_len
  have ha1 : a < (swp M a p).length := by rw [l1]; exact ha
  have he1 : ent (swp M a p) a c ≠ 0 := by
    unfold ent
    rw [swp_get ha hp]
    by_cases h : a = p
    · subst h; rw [if_pos rfl]; exact he
    · rw [if_neg h, if_pos rfl]; exact he
  dsimp only
  rw [ann_clr l (s1.set (by unfold divs; rw [List.length_map]; exact s1.get ha1)) (by simpa using ha1) (by simp), ann_div l s1 ha1 he1, ann_swp ha hp]

/-! ### entries behind a step -/
theorem clr1_get {M : Mat} {a c p i : Nat} (hp : p < M.length) : (clr1 M a c p).getD i [] = if i = p ∧ p ≠ a ∧ ent M p c ≠ 0 then axpy (ent M p c) (M.getD p []) (M.getD a []) else M.getD i [] := by
  unfold clr1
  by_cases h : p ≠ a ∧ ent M p c ≠ 0
  · rw [if_pos h, getD_set]
    by_cases hi : i = p
    · subst hi; rw [if_pos ⟨rfl, hp⟩, if_pos ⟨rfl, h⟩]
    · rw [if_neg (fun e => hi e.1.symm), if_neg (fun e => hi e.1)]
  · rw [if_neg h, if_neg (fun e => h e.2)]
theorem clr_get {a c : Nat} : ∀ {ps : List Nat} {M : Mat} {i : Nat}, ps.Nodup → (∀ p ∈ ps, p < M.length) → (clr a c ps M).getD i [] = if i ∈ ps ∧ i ≠ a ∧ ent M i c ≠ 0 then axpy (ent M i c) (M.getD i []) (M.getD a []) else M.getD i []
  | [], M, i, _, _ => by rw [if_neg (by simp)]; rfl
  | p :: ps, M, i, nd, hp => by
    have hpl := hp p (by simp)
    have nd' := List.nodup_cons.mp nd
    unfold clr
    rw [clr_get nd'.2 fun q hq => by rw [clr1_len]; exact hp q (by simp [hq])]
    have ga : (clr1 M a c p).getD a [] = M.getD a [] := by
      rw [clr1_get hpl, if_neg (fun e => e.2.1 e.1.symm)]
    by_cases hi : i = p
    · subst hi
      rw [if_neg (fun e => nd'.1 e.1), clr1_get hpl]
      by_cases h : i ≠ a ∧ ent M i c ≠ 0
      · rw [if_pos ⟨rfl, h⟩, if_pos ⟨by simp, h⟩]
      · rw [if_neg (fun e => h e.2), if_neg (fun e => h e.2)]
    · have gi : (clr1 M a c p).getD i [] = M.getD i [] := by rw [clr1_get hpl, if_neg (fun e => hi e.1)]
      have ge : ent (clr1 M a c p) i c = ent M i c := by unfold ent; rw [gi]
      rw [gi, ge, ga]
      simp only [List.mem_cons, hi, false_or]
theorem clr_ent {M : Mat} {a c i d w : Nat} (s : Shp M w) (ha : a < M.length) (hi : i < M.length) : ent (clr a c (List.range M.length) M) i d = if i = a then ent M i d else ent M i d - ent M a d * ent M i c := by
  unfold ent
  rw [clr_get List.nodup_range (by simp)]
  by_cases h : i = a
  · rw [if_pos h, if_neg (fun e => e.2.1 h)]
  · rw [if_neg h]
    by_cases h2 : ent M i c = 0
    · rw [if_neg (fun e => e.2.2 h2)]
      unfold ent at h2
      rw [h2]; grind
    · rw [if_pos ⟨by simpa using hi, h, h2⟩, getD_axpy (s.get hi) (s.get ha)]
      rfl
theorem stp1_ent {M : Mat} {a c p i d w : Nat} (s : Shp M w) (ha : a < M.length) (hp : p < M.length) (hi : i < M.length) :
    ent (stp1 M a c p) i d = if i = a then ent M p d / ent M p c else (if i = p then ent M a d else ent M i d) - ent M p d / ent M p c * (if i = p then ent M a c else ent M i c) := by
  have l1 : (swp M a p).length = M.length := swp_len
  have s1 := s.swp ha hp
  have e1 : ∀ i d, ent (swp M a p) i d = if i = p then ent M a d else if i = a then ent M p d else ent M i d := by
    intro i d
    unfold ent
    rw [swp_get ha hp]
    split
    · rfl
    · split <;> rfl
  have ea : ∀ d, ent (swp M a p) a d = ent M p d := by
    intro d
    rw [e1]
    by_cases h : a = p
    · rw [if_pos h, h]
    · rw [if_neg h, if_pos rfl]
  have s2 : Shp ((swp M a p).set a (divs (ent (swp M a p) a c) ((swp M a p).getD a []))) w := s1.set (by unfold divs; rw [List.length_map]; exact s1.get (by rw [l1]; exact ha))
  have e2 : ∀ i d, ent ((swp M a p).set a (divs (ent (swp M a p) a c) ((swp M a p).getD a []))) i d = if i = a then ent M p d / ent M p c else ent (swp M a p) i d := by
    intro i d
    show (((swp M a p).set a _).getD i []).getD d 0 = _
    rw [getD_set]
    by_cases h : i = a
    · subst h
      rw [if_pos ⟨rfl, by rw [l1]; exact ha⟩, if_pos rfl, getD_divs, ea]
      congr 1
      exact ea d
    · rw [if_neg (fun e => h e.1.symm), if_neg h]
      rfl
  unfold stp1
  dsimp only
  rw [clr_ent s2 (by simp [l1, ha]) (by simp [l1, hi]), e2, e2, e2, if_pos rfl, e1, e1]
  by_cases h : i = a
  · simp only [if_pos h]
  · simp only [if_neg h]
structure Red (M : Mat) (cs : List Nat) (k : Nat) : Prop where
  le : cs.length ≤ M.length
  lt : ∀ j, j < cs.length → cs.getD j 0 < k
  mono : ∀ i j, i < j → j < cs.length → cs.getD i 0 < cs.getD j 0
  piv : ∀ j, j < cs.length → ∀ i, i < M.length → ent M i (cs.getD j 0) = if i = j then 1 else 0
  nul : ∀ i, cs.length ≤ i → i < M.length → ∀ c, c < k → ent M i c = 0
theorem Red.nil {M : Mat} : Red M [] 0 := ⟨by simp, by simp, by simp, by simp, fun _ _ _ _ h => by omega⟩
theorem Red.none {M : Mat} {cs : List Nat} {k : Nat} (r : Red M cs k) (h : places M cs.length k = []) : Red M cs (k + 1) :=
  ⟨r.le, fun j hj => by have := r.lt j hj; omega, r.mono, r.piv, fun i h1 h2 c hc => by
    by_cases e : c = k
    · subst e; exact places_nil h h1 h2
    · exact r.nul i h1 h2 c (by omega)⟩
theorem getD_app {cs : List Nat} {k j : Nat} : (cs ++ [k]).getD j 0 = if j < cs.length then cs.getD j 0 else if j = cs.length then k else 0 := by
  simp only [List.getD_eq_getElem?_getD]
  by_cases h : j < cs.length
  · rw [if_pos h, List.getElem?_append_left h]
  · rw [if_neg h, List.getElem?_append_right (by omega)]
    by_cases h2 : j = cs.length
    · subst h2; simp
    · rw [if_neg h2, List.getElem?_eq_none (by simp; omega)]; rfl
theorem div_self {a : Rat} (h : a ≠ 0) : a / a = 1 := by rw [Rat.div_def, Rat.mul_inv_cancel a h]
theorem Red.some {M : Mat} {cs : List Nat} {k p w : Nat} (s : Shp M w) (r : Red M cs k) (h : p ∈ places M cs.length k) : Red (stp1 M cs.length k p) (cs ++ [k]) (k + 1) := by
  obtain ⟨h1, h2, h3⟩ := places_mem h
  have ha : cs.length < M.length := by omega
  have one : ∀ i, i < M.length → ent (stp1 M cs.length k p) i k = if i = cs.length then 1 else 0 := by
    intro i hi
    rw [stp1_ent s ha h2 hi]
    split
    · exact div_self h3
    · rw [div_self h3]; grind
  have pz : ∀ c, c < k → ent M p c = 0 := r.nul p h1 h2
  have old : ∀ i c, i < M.length → c < k → ent (stp1 M cs.length k p) i c = if i = cs.length then 0 else if i = p then ent M cs.length c else ent M i c := by
    intro i c hi hc
    rw [stp1_ent s ha h2 hi, pz c hc]
    split
    · rw [Rat.div_def, Rat.zero_mul]
    · rw [Rat.div_def, Rat.zero_mul, Rat.zero_mul]; grind
  refine ⟨by rw [stp1_len]; simp; omega, fun j hj => ?_, fun i j hij hj => ?_, fun j hj i hi => ?_, fun i hi1 hi2 c hc => ?_⟩
  · rw [getD_app]
    simp at hj
    split
    · have := r.lt j (by omega); omega
    · rw [if_pos (by omega)]; omega
  · simp at hj
    rw [getD_app, getD_app, if_pos (by omega)]
    split
    · exact r.mono i j hij (by omega)
    · rw [if_pos (by omega)]; exact r.lt i (by omega)
  · rw [stp1_len] at hi
    simp at hj
    rw [getD_app]
    by_cases hj2 : j < cs.length
    · rw [if_pos hj2, old i _ hi (r.lt j hj2)]
      by_cases e1 : i = cs.length
      · rw [if_pos e1, if_neg (by omega)]
      · rw [if_neg e1]
        by_cases e2 : i = p
        · rw [if_pos e2, r.piv j hj2 _ ha, if_neg (by omega), if_neg (by omega)]
        · rw [if_neg e2, r.piv j hj2 i hi]
    · rw [if_neg hj2, if_pos (by omega), one i hi]
      have : j = cs.length := by omega
      subst this
      rfl
  · rw [stp1_len] at hi2
    simp at hi1
    by_cases e : c = k
    · subst e; rw [one i hi2, if_neg (by omega)]
    · rw [old i c hi2 (by omega), if_neg (by omega)]
      split
      · exact r.nul _ (Nat.le_refl _) ha c (by omega)
      · exact r.nul i (by omega) hi2 c (by omega)

/-! ### the whole run -/
structure RunOk (w : Nat) (M : Mat) (k : Nat) (R : Mat × List Nat) : Prop where
  red : Red R.1 R.2 k
  shp : Shp R.1 w
  len : R.1.length = M.length
  ann : ∀ L, Lin w L → (Ann L R.1 ↔ Ann L M)
theorem run_ok {w : Nat} : ∀ (n k : Nat) (M : Mat) (cs : List Nat), Shp M w → Red M cs k → RunOk w M (k + n) (run (List.range' k n) M cs)
  | 0, k, M, cs, s, r => ⟨r, s, rfl, fun _ _ => Iff.rfl⟩
  | n + 1, k, M, cs, s, r => by
    rw [List.range'_succ]
    unfold run stp
    cases e : places M cs.length k with
    | nil =>
      have := run_ok n (k + 1) M cs s (r.none e)
      rw [show k + (n + 1) = k + 1 + n by omega]
      exact this
    | cons p ps =>
      have hp : p ∈ places M cs.length k := by rw [e]; simp
      obtain ⟨h1, h2, h3⟩ := places_mem hp
      have ih := run_ok n (k + 1) (stp1 M cs.length k p) (cs ++ [k]) (s.stp1 (by omega) h2) (r.some s hp)
      rw [show k + (n + 1) = k + 1 + n by omega]
      exact ⟨ih.red, ih.shp, ih.len.trans stp1_len, fun L l => (ih.ann L l).trans (ann_stp1 l s (by omega) h2 h3)⟩
theorem run_all {w n : Nat} {M : Mat} (s : Shp M w) : RunOk w M n (run (List.range n) M []) := by
  have := run_ok n 0 M [] s Red.nil
  rwa [← List.range_eq_range', Nat.zero_add] at this
/-! ### the first columns alone -/
def tk (v : Nat) (M : Mat) : Mat := M.map (·.take v)
theorem tk_get {v i : Nat} {M : Mat} : (tk v M).getD i [] = (M.getD i []).take v := by
  unfold tk
  simp only [List.getD_eq_getElem?_getD, List.getElem?_map]
  cases M[i]? <;> simp
theorem tk_ent {v i c : Nat} {M : Mat} (h : c < v) : ent (tk v M) i c = ent M i c := by
  unfold ent
  rw [tk_get]
  simp only [List.getD_eq_getElem?_getD, List.getElem?_take, if_pos h]
theorem tk_set {v i : Nat} {M : Mat} {r : Row} : (tk v M).set i (r.take v) = tk v (M.set i r) := by
  unfold tk; rw [List.map_set]
theorem tk_swp {v i j : Nat} {M : Mat} : swp (tk v M) i j = tk v (swp M i j) := by
  unfold swp; rw [tk_get, tk_get, tk_set, tk_set]
theorem tk_axpy {v : Nat} {n : Rat} {x y : Row} : axpy n (x.take v) (y.take v) = (axpy n x y).take v := by
  unfold axpy; rw [List.take_zipWith]
theorem tk_divs {v : Nat} {f : Rat} {x : Row} : divs f (x.take v) = (divs f x).take v := by
  unfold divs; rw [List.map_take]
theorem tk_clr1 {v a c p : Nat} {M : Mat} (h : c < v) : clr1 (tk v M) a c p = tk v (clr1 M a c p) := by
  unfold clr1
  rw [tk_ent h, tk_get, tk_get, tk_axpy, tk_set]
  split <;> rfl
theorem tk_clr {v a c : Nat} (h : c < v) : ∀ {ps : List Nat} {M : Mat}, clr a c ps (tk v M) = tk v (clr a c ps M)
  | [], _ => rfl
  | p :: ps, M => by unfold clr; rw [tk_clr1 h, tk_clr h]
theorem tk_len {v : Nat} {M : Mat} : (tk v M).length = M.length := by simp [tk]
theorem tk_stp1 {v a c p : Nat} {M : Mat} (h : c < v) : stp1 (tk v M) a c p = tk v (stp1 M a c p) := by
  unfold stp1
  dsimp only
  rw [tk_swp, tk_ent h, tk_get, tk_divs, tk_set, tk_clr h, tk_len]
theorem tk_places {v a c : Nat} {M : Mat} (h : c < v) : places (tk v M) a c = places M a c := by
  unfold places
  rw [tk_len]
  congr 1
  funext p
  rw [tk_ent h]
theorem tk_run {v : Nat} : ∀ {l : List Nat} {M : Mat} {cs : List Nat}, (∀ c ∈ l, c < v) → run l (tk v M) cs = (tk v (run l M cs).1, (run l M cs).2)
  | [], _, _, _ => rfl
  | c :: l, M, cs, h => by
    unfold run stp
    rw [tk_places (h c (by simp))]
    cases places M cs.length c with
    | nil => exact tk_run fun d hd => h d (by simp [hd])
    | cons p ps =>
      dsimp only
      rw [tk_stp1 (h c (by simp))]
      exact tk_run fun d hd => h d (by simp [hd])

/-! ### sums -/
theorem sum_congr : ∀ {n : Nat} {f g : Nat → Rat}, (∀ i, i < n → f i = g i) → sumN n f = sumN n g
  | 0, _, _, _ => rfl
  | n + 1, f, g, h => by unfold sumN; rw [sum_congr fun i hi => h i (by omega), h n (by omega)]
theorem sum_zero : ∀ {n : Nat} {f : Nat → Rat}, (∀ i, i < n → f i = 0) → sumN n f = 0
  | 0, _, _ => rfl
  | n + 1, f, h => by unfold sumN; rw [sum_zero fun i hi => h i (by omega), h n (by omega), Rat.add_zero]
theorem sum_add : ∀ {n : Nat} {f g : Nat → Rat}, sumN n (fun i => f i + g i) = sumN n f + sumN n g
  | 0, _, _ => by unfold sumN; rw [Rat.add_zero]
  | n + 1, f, g => by unfold sumN; rw [sum_add]; grind
theorem sum_mul : ∀ {n : Nat} {f : Nat → Rat} {a : Rat}, sumN n (fun i => f i * a) = sumN n f * a
  | 0, _, a => by unfold sumN; rw [Rat.zero_mul]
  | n + 1, f, a => by unfold sumN; rw [sum_mul]; grind
theorem sum_sub {n : Nat} {f g : Nat → Rat} : sumN n (fun i => f i - g i) = sumN n f - sumN n g := by
  have : sumN n (fun i => f i - g i) = sumN n (fun i => f i + g i * (-1)) := sum_congr fun i _ => by grind
  rw [this, sum_add, sum_mul]; grind
theorem sum_single : ∀ {n : Nat} {f : Nat → Rat} {k : Nat}, sumN n (fun i => if i = k then f i else 0) = if k < n then f k else 0
  | 0, _, _ => rfl
  | n + 1, f, k => by
    unfold sumN
    rw [sum_single]
    dsimp only
    by_cases h : n = k
    · subst h; rw [if_pos rfl, if_neg (by omega), if_pos (by omega), Rat.zero_add]
    · rw [if_neg h]
      by_cases h2 : k < n
      · rw [if_pos h2, if_pos (by omega), Rat.add_zero]
      · rw [if_neg h2, if_neg (by omega), Rat.add_zero]
theorem sum_swap {n m : Nat} : ∀ {f : Nat → Nat → Rat}, sumN n (fun i => sumN m fun j => f i j) = sumN m (fun j => sumN n fun i => f i j) := by
  induction n with
  | zero => intro f; exact (sum_zero fun _ _ => rfl).symm
  | succ n ih => intro f; show sumN n _ + _ = _; rw [ih, ← sum_add]; rfl
theorem sum_skip {k : Nat} : ∀ {n : Nat} {f : Nat → Rat}, k < n + 1 → sumN (n + 1) f = f k + sumN n (fun i => f (if i < k then i else i + 1))
  | 0, f, h => by
    have : k = 0 := by omega
    subst this
    unfold sumN sumN; grind
  | n + 1, f, h => by
    by_cases e : k = n + 1
    · subst e
      show sumN (n + 1) f + f (n + 1) = _
      rw [sum_congr (n := n + 1) (f := fun i => f (if i < n + 1 then i else i + 1)) (g := f) fun i hi => by rw [if_pos hi]]
      grind
    · show sumN (n + 1) f + f (n + 1) = f k + (sumN n (fun i => f (if i < k then i else i + 1)) + f (if n < k then n else n + 1))
      rw [sum_skip (k := k) (n := n) (by omega), if_neg (show ¬ n < k by omega)]
      grind
/-- fewer equations than unknowns -/
theorem null_vec : ∀ (r p : Nat) (M : Nat → Nat → Rat), r < p → ∃ y : Nat → Rat, (∃ k, k < p ∧ y k ≠ 0) ∧ ∀ i, i < r → sumN p (fun k => M i k * y k) = 0
  | 0, p, M, h => ⟨fun _ => 1, ⟨0, h, by decide⟩, fun i hi => by omega⟩
  | r + 1, 0, M, h => by omega
  | r + 1, p + 1, M, h => by
    by_cases hz : ∀ k, k < p + 1 → M r k = 0
    · obtain ⟨y, hy, h2⟩ := null_vec r (p + 1) M (by omega)
      refine ⟨y, hy, fun i hi => ?_⟩
      by_cases e : i = r
      · subst e
        exact sum_zero fun k hk => by rw [hz k hk, Rat.zero_mul]
      · exact h2 i (by omega)
    · have hz : ∃ k, k < p + 1 ∧ M r k ≠ 0 := Classical.byContradiction fun hn => hz fun k hk => Classical.byContradiction fun h => hn ⟨k, hk, h⟩
      obtain ⟨k0, hk0, hm⟩ := hz
      obtain ⟨y, ⟨k1, hk1, hy1⟩, h2⟩ := null_vec r p (fun i k => M i (if k < k0 then k else k + 1) - M i k0 * M r (if k < k0 then k else k + 1) / M r k0) (by omega)
      have S : ∃ S, S = sumN p (fun k => M r (if k < k0 then k else k + 1) * y k) := ⟨_, rfl⟩
      obtain ⟨S, hS⟩ := S
      have yk : ∀ k, (fun k => if k < k0 then y k else if k = k0 then -S / M r k0 else y (k - 1)) (if k < k0 then k else k + 1) = y k := by
        intro k
        dsimp only
        by_cases h1 : k < k0
        · rw [if_pos h1, if_pos h1]
        · rw [if_neg h1, if_neg (by omega), if_neg (by omega), Nat.add_sub_cancel]
      refine ⟨fun k => if k < k0 then y k else if k = k0 then -S / M r k0 else y (k - 1), ⟨if k1 < k0 then k1 else k1 + 1, by split <;> omega, by rw [yk]; exact hy1⟩, fun i hi => ?_⟩
      rw [sum_skip hk0]
      dsimp only
      rw [if_neg (Nat.lt_irrefl _), if_pos rfl, sum_congr (g := fun k => M i (if k < k0 then k else k + 1) * y k) fun k _ => by have := yk k; dsimp only at this; rw [this]]
      by_cases e : i = r
      · subst e
        rw [← hS]
        have : M i k0 * (-S / M i k0) = -S := by rw [Rat.mul_comm, Rat.div_mul_cancel hm]
        rw [this]; grind
      · have := h2 i (by omega)
        have e2 : sumN p (fun k => (M i (if k < k0 then k else k + 1) - M i k0 * M r (if k < k0 then k else k + 1) / M r k0) * y k) = sumN p (fun k => M i (if k < k0 then k else k + 1) * y k) - S * (M i k0 / M r k0) := by
          rw [hS, ← sum_mul, ← sum_sub]
          exact sum_congr fun k _ => by simp only [Rat.div_def]; grind
        rw [e2] at this
        simp only [Rat.div_def] at this ⊢
        grind
end Km

set_option Elab.async false
set_option linter.all false
set_option maxRecDepth 100000
set_option maxHeartbeats 4000000
/-! # What the steps tell -/
namespace Km
variable {w n m : Nat} {M : Mat}
theorem sum_delta {n : Nat} {i : Nat} {f : Nat → Rat} : sumN n (fun j => (if i = j then 1 else 0) * f j) = if i < n then f i else 0 := by
  rw [← sum_single]
  refine sum_congr fun j _ => ?_
  by_cases h : i = j
  · rw [if_pos h, if_pos h.symm, Rat.one_mul]
  · rw [if_neg h, if_neg (fun e => h e.symm), Rat.zero_mul]
/-- a column by the pivots' columns -/
theorem factor {R : Mat × List Nat} (o : RunOk w M n R) {c : Nat} (hz : ∀ i, R.2.length ≤ i → i < R.1.length → ent R.1 i c = 0) {i : Nat} (hi : i < M.length) :
    ent M i c = sumN R.2.length fun j => ent M i (R.2.getD j 0) * ent R.1 j c := by
  have l : Lin w fun r => r.getD c 0 - sumN R.2.length fun j => r.getD (R.2.getD j 0) 0 * ent R.1 j c := Lin.get.sub (Lin.sum fun j _ => Lin.get.mul _)
  have a := (o.ann _ l).mp fun i hi => by
    show ent R.1 i c - sumN R.2.length (fun j => ent R.1 i (R.2.getD j 0) * ent R.1 j c) = 0
    rw [sum_congr (g := fun j => (if i = j then 1 else 0) * ent R.1 j c) fun j hj => by rw [o.red.piv j hj i hi], sum_delta]
    split
    · exact Rat.sub_self
    · rw [hz i (by omega) hi]; grind
  have := a i hi
  have e : ent M i c - sumN R.2.length (fun j => ent M i (R.2.getD j 0) * ent R.1 j c) = 0 := this
  grind
/-- rows are told by their units -/
theorem told {R : Mat × List Nat} (o : RunOk w M n R) {v c : Nat} (hu : ∀ i k, i < M.length → k < M.length → ent M i (v + k) = if i = k then 1 else 0) {i : Nat} (hi : i < M.length) :
    ent R.1 i c = sumN M.length fun k => ent R.1 i (v + k) * ent M k c := by
  have l : Lin w fun r => r.getD c 0 - sumN M.length fun k => r.getD (v + k) 0 * ent M k c := Lin.get.sub (Lin.sum fun j _ => Lin.get.mul _)
  have a := (o.ann _ l).mpr fun i hi => by
    show ent M i c - sumN M.length (fun k => ent M i (v + k) * ent M k c) = 0
    rw [sum_congr (g := fun j => (if i = j then 1 else 0) * ent M j c) fun j hj => by rw [hu i j hi hj], sum_delta, if_pos hi]
    exact Rat.sub_self
  have := a i (by rw [o.len]; exact hi)
  have e : ent R.1 i c - sumN M.length (fun k => ent R.1 i (v + k) * ent M k c) = 0 := this
  grind
/-- with the pivots' values, the others nought -/
def pick (k : Nat) (cs : List Nat) (v : Nat → Rat) (c : Nat) : Rat := sumN k fun j => if c = cs.getD j 0 then v j else 0
theorem pick_sum {k : Nat} {cs : List Nat} {v f : Nat → Rat} (h : ∀ j, j < k → cs.getD j 0 < n) : sumN n (fun c => f c * pick k cs v c) = sumN k fun j => f (cs.getD j 0) * v j := by
  have : sumN n (fun c => f c * pick k cs v c) = sumN n fun c => sumN k fun j => if c = cs.getD j 0 then f c * v j else 0 := by
    refine sum_congr fun c _ => ?_
    unfold pick
    rw [Rat.mul_comm, ← sum_mul]
    refine sum_congr fun j _ => ?_
    split
    · rw [Rat.mul_comm]
    · rw [Rat.zero_mul]
  rw [this, sum_swap]
  refine sum_congr fun j hj => ?_
  rw [sum_single (f := fun c => f c * v j), if_pos (h j hj)]
theorem solves {R : Mat × List Nat} (o : RunOk w M n R) (hz : ∀ i, R.2.length ≤ i → i < R.1.length → ent R.1 i n = 0) {i : Nat} (hi : i < M.length) :
    sumN n (fun c => ent M i c * pick R.2.length R.2 (fun j => ent R.1 j n) c) = ent M i n := by
  rw [pick_sum o.red.lt, factor o hz hi]
/-- strictly upwards -/
theorem Red.ge {cs : List Nat} {k : Nat} (r : Red M cs k) : ∀ j, j < cs.length → j ≤ cs.getD j 0
  | 0, _ => Nat.zero_le _
  | j + 1, h => by
    have := r.ge j (by omega)
    have := r.mono j (j + 1) (by omega) h
    omega
theorem Red.few {cs : List Nat} {k : Nat} (r : Red M cs k) : cs.length ≤ k := by
  by_cases h : cs.length = 0
  · omega
  · have := r.ge (cs.length - 1) (by omega)
    have := r.lt (cs.length - 1) (by omega)
    omega
theorem Red.le_top {cs : List Nat} {k : Nat} (r : Red M cs k) : ∀ d j, j + d + 1 = cs.length → cs.getD j 0 + d < k
  | 0, j, h => by have := r.lt j (by omega); omega
  | d + 1, j, h => by
    have := r.le_top d (j + 1) (by omega)
    have := r.mono j (j + 1) (by omega) (by omega)
    omega
theorem Red.full {cs : List Nat} {k : Nat} (r : Red M cs k) (h : cs.length = k) {j : Nat} (hj : j < k) : cs.getD j 0 = j := by
  have h1 := r.ge j (by omega)
  have h2 := r.le_top (k - 1 - j) j (by omega)
  omega
/-- as many columns as rows, a unit table behind: what stands there in the end turns the table back -/
theorem turns {R : Mat × List Nat} (o : RunOk w M n R) (hn : M.length = n) (hk : R.2.length = n) {v : Nat} (hu : ∀ i k, i < M.length → k < M.length → ent M i (v + k) = if i = k then 1 else 0) {i k : Nat} (hi : i < n) (hk2 : k < n) :
    sumN n (fun j => ent M i j * ent R.1 j (v + k)) = if i = k then 1 else 0 := by
  have := factor (c := v + k) o (fun i h1 h2 => by rw [o.len] at h2; omega) (i := i) (by omega)
  rw [hu i k (by omega) (by omega), hk] at this
  rw [this]
  exact sum_congr fun j hj => by rw [o.red.full hk hj]
/-- the table turned over has no more -/
theorem turned_le {A B : Mat} (sA : Shp A n) (sB : Shp B m) (hA : A.length = m) (hB : B.length = n) (ht : ∀ i c, i < m → c < n → ent B c i = ent A i c) :
    (run (List.range m) B []).2.length ≤ (run (List.range n) A []).2.length := by
  have oA := run_all (n := n) sA
  have oB := run_all (n := m) sB
  have R : ∃ R, R = run (List.range n) A [] := ⟨_, rfl⟩
  obtain ⟨R, hR⟩ := R
  have S : ∃ S, S = run (List.range m) B [] := ⟨_, rfl⟩
  obtain ⟨S, hS⟩ := S
  rw [← hR] at oA ⊢
  rw [← hS] at oB ⊢
  refine Classical.byContradiction fun hlt => ?_
  have hlt : R.2.length < S.2.length := by omega
  obtain ⟨y, ⟨k0, hk0, hy⟩, hn⟩ := null_vec R.2.length S.2.length (fun j k => ent A (S.2.getD k 0) (R.2.getD j 0)) hlt
  have l : Lin m fun r => sumN S.2.length fun k => r.getD (S.2.getD k 0) 0 * y k := Lin.sum fun j _ => Lin.get.mul _
  have a := (oB.ann _ l).mpr fun c hc => by
    rw [hB] at hc
    show sumN S.2.length (fun k => ent B c (S.2.getD k 0) * y k) = 0
    have e1 : sumN S.2.length (fun k => ent B c (S.2.getD k 0) * y k) = sumN S.2.length fun k => sumN R.2.length fun j => ent A (S.2.getD k 0) (R.2.getD j 0) * y k * ent R.1 j c := by
      refine sum_congr fun k hk => ?_
      have hd := oB.red.lt k hk
      rw [ht _ _ hd hc, factor oA (fun i h1 h2 => oA.red.nul i h1 h2 c hc) (by omega), ← sum_mul]
      exact sum_congr fun j _ => by grind
    rw [e1, sum_swap]
    refine sum_zero fun j hj => ?_
    rw [sum_mul, hn j hj, Rat.zero_mul]
  have h0 := a k0 (by have := oB.red.le; omega)
  have e0 : sumN S.2.length (fun k => ent S.1 k0 (S.2.getD k 0) * y k) = 0 := h0
  rw [sum_congr (g := fun k => (if k0 = k then 1 else 0) * y k) fun k hk => by rw [oB.red.piv k hk k0 (by have := oB.red.le; omega)], sum_delta, if_pos hk0] at e0
  exact hy e0
theorem turned {A B : Mat} (sA : Shp A n) (sB : Shp B m) (hA : A.length = m) (hB : B.length = n) (ht : ∀ i c, i < m → c < n → ent B c i = ent A i c) :
    (run (List.range m) B []).2.length = (run (List.range n) A []).2.length :=
  Nat.le_antisymm (turned_le sA sB hA hB ht) (turned_le sB sA hB hA fun i c hi hc => (ht c i hc hi).symm)
end Km

set_option Elab.async false
set_option linter.all false
set_option maxRecDepth 100000
set_option maxHeartbeats 4000000
/-! # How long the numbers grow -/
namespace Km
open Wk
/-- a row over one denominator, all of at most b binary digits -/
def RowZ (b : Nat) (r : Row) : Prop := ∃ d : Int, d ≠ 0 ∧ d.natAbs < 2 ^ b ∧ ∀ x ∈ r, ∃ a : Int, x = Rat.divInt a d ∧ a.natAbs < 2 ^ b
def MZ (b : Nat) (M : Mat) : Prop := ∀ r ∈ M, RowZ b r
theorem RowZ.sz {b : Nat} {r : Row} (h : RowZ b r) : ∀ x ∈ r, Sz b x := fun x hx => by
  obtain ⟨d, h0, h1, h⟩ := h
  obtain ⟨a, rfl, ha⟩ := h x hx
  exact Sz.divInt ha h1 h0
theorem getD_mem' {r : Row} {c : Nat} (h : c < r.length) : r.getD c 0 ∈ r := by
  rw [List.getD_eq_getElem?_getD, List.getElem?_eq_getElem h]; exact List.getElem_mem h
theorem pow_le {b c : Nat} (h : b ≤ c) : 2 ^ b ≤ 2 ^ c := Nat.pow_le_pow_right (by omega) h
theorem RowZ.mono {b c : Nat} {r : Row} (h : RowZ b r) (hc : b ≤ c) : RowZ c r := by
  obtain ⟨d, h0, h1, h⟩ := h
  refine ⟨d, h0, Nat.lt_of_lt_of_le h1 (pow_le hc), fun x hx => ?_⟩
  obtain ⟨a, e, ha⟩ := h x hx
  exact ⟨a, e, Nat.lt_of_lt_of_le ha (pow_le hc)⟩
theorem toQ {a d : Int} : Rat.divInt a d = (a : Rat) / (d : Rat) := Rat.divInt_eq_div a d
theorem cast_ne {d : Int} (h : d ≠ 0) : (d : Rat) ≠ 0 := by
  intro e
  exact h (by exact_mod_cast e)
theorem RowZ.divs {b c : Nat} {r : Row} (h : RowZ b r) (hc : c < r.length) (h0 : r.getD c 0 ≠ 0) : RowZ b (divs (r.getD c 0) r) := by
  obtain ⟨d, hd, h1, h⟩ := h
  obtain ⟨p, ep, hp⟩ := h _ (getD_mem' hc)
  have hp0 : p ≠ 0 := by
    rintro rfl
    exact h0 (by rw [ep]; simp)
  refine ⟨p, hp0, hp, fun x hx => ?_⟩
  unfold Km.divs at hx
  obtain ⟨y, hy, rfl⟩ := List.mem_map.mp hx
  obtain ⟨a, rfl, ha⟩ := h y hy
  refine ⟨a, ?_, ha⟩
  rw [ep, toQ, toQ, toQ]
  have := cast_ne hd
  have := cast_ne hp0
  simp only [Rat.div_def]
  grind
theorem RowZ.axpy {b c : Nat} {x y : Row} (hx : RowZ b x) (hy : RowZ b y) (hc : c < x.length) : RowZ (2 * b + 1) (axpy (x.getD c 0) x y) := by
  obtain ⟨d, hd, h1, h⟩ := hx
  obtain ⟨d', hd', h1', h'⟩ := hy
  obtain ⟨p, ep, hp⟩ := h _ (getD_mem' hc)
  refine ⟨d * d', Int.mul_ne_zero hd hd', ?_, fun z hz => ?_⟩
  · rw [Int.natAbs_mul]
    exact Nat.lt_of_lt_of_le (mul_lt h1 h1') (pow_le (by omega))
  · unfold Km.axpy at hz
    rw [← List.map_uncurry_zip_eq_zipWith] at hz
    obtain ⟨q, hq, rfl⟩ := List.mem_map.mp hz
    obtain ⟨a, ea, ha⟩ := h _ (List.of_mem_zip hq).1
    obtain ⟨a', ea', ha'⟩ := h' _ (List.of_mem_zip hq).2
    refine ⟨a * d' - a' * p, ?_, ?_⟩
    · show q.1 - q.2 * x.getD c 0 = _
      rw [ea, ea', ep, toQ, toQ, toQ, toQ]
      have := cast_ne hd
      have := cast_ne hd'
      simp only [Rat.div_def, Rat.intCast_sub, Rat.intCast_mul]
      grind
    · have e : a * d' - a' * p = a * d' + -(a' * p) := Int.sub_eq_add_neg
      rw [e]
      have g1 : (a * d').natAbs < 2 ^ (2 * b) := by rw [Int.natAbs_mul, Nat.two_mul]; exact mul_lt ha h1'
      have g2 : (-(a' * p)).natAbs < 2 ^ (2 * b) := by rw [Int.natAbs_neg, Int.natAbs_mul, Nat.two_mul]; exact mul_lt ha' hp
      exact sum_lt g1 g2
theorem mem_getD {M : Mat} {r : Row} (h : r ∈ M) : ∃ i, i < M.length ∧ r = M.getD i [] := by
  obtain ⟨i, hi, e⟩ := List.getElem_of_mem h
  refine ⟨i, hi, ?_⟩
  rw [List.getD_eq_getElem?_getD, List.getElem?_eq_getElem hi]
  exact e.symm
theorem MZ.get {b i : Nat} {M : Mat} (h : MZ b M) (hi : i < M.length) : RowZ b (M.getD i []) := h _ (getD_mem hi)
theorem MZ.swp {b i j : Nat} {M : Mat} (h : MZ b M) (hi : i < M.length) (hj : j < M.length) : MZ b (swp M i j) := fun r hr => by
  obtain ⟨k, hk, rfl⟩ := mem_getD hr
  rw [swp_len] at hk
  rw [swp_get hi hj]
  split
  · exact h.get hi
  · split
    · exact h.get hj
    · exact h.get hk
theorem MZ.set {b i : Nat} {M : Mat} {r : Row} (h : MZ b M) (hr : RowZ b r) : MZ b (M.set i r) := fun x hx => by
  rcases List.mem_or_eq_of_mem_set hx with h1 | h1
  · exact h x h1
  · rw [h1]; exact hr
theorem MZ.clr {b a c w : Nat} {M : Mat} {ps : List Nat} (h : MZ b M) (s : Shp M w) (hc : c < w) (ha : a < M.length) (nd : ps.Nodup) (hp : ∀ p ∈ ps, p < M.length) : MZ (2 * b + 1) (clr a c ps M) := fun r hr => by
  obtain ⟨k, hk, rfl⟩ := mem_getD hr
  rw [clr_len] at hk
  rw [clr_get nd hp]
  split
  · exact (h.get hk).axpy (h.get ha) (by rw [s.get hk]; exact hc)
  · exact (h.get hk).mono (by omega)
/-- swapped and scaled, before the others are cleared -/
def pre (M : Mat) (a c p : Nat) : Mat := (Km.swp M a p).set a (divs (ent (Km.swp M a p) a c) ((Km.swp M a p).getD a []))
theorem stp1_pre {M : Mat} {a c p : Nat} : stp1 M a c p = clr a c (List.range M.length) (pre M a c p) := by
  unfold stp1 pre
  dsimp only
  rw [List.length_set, swp_len]
theorem pre_len {M : Mat} {a c p : Nat} : (pre M a c p).length = M.length := by unfold pre; rw [List.length_set, swp_len]
theorem swp_ent {M : Mat} {a c p : Nat} (ha : a < M.length) (hp : p < M.length) : ent (Km.swp M a p) a c = ent M p c := by
  unfold ent
  rw [swp_get ha hp]
  by_cases h : a = p
  · rw [if_pos h, h]
  · rw [if_neg h, if_pos rfl]
theorem pre_shp {M : Mat} {a c p w : Nat} (s : Shp M w) (ha : a < M.length) (hp : p < M.length) : Shp (pre M a c p) w := by
  unfold pre
  have s1 := s.swp ha hp
  exact s1.set (by unfold divs; rw [List.length_map]; exact s1.get (by rw [swp_len]; exact ha))
theorem MZ.pre {b a c p w : Nat} {M : Mat} (h : MZ b M) (s : Shp M w) (hc : c < w) (ha : a < M.length) (hp : p < M.length) (h0 : ent M p c ≠ 0) : MZ b (pre M a c p) := by
  unfold Km.pre
  have h1 := h.swp ha hp
  have s1 := s.swp ha hp
  have ha1 : a < (Km.swp M a p).length := by rw [swp_len]; exact ha
  exact h1.set ((h1.get ha1).divs (by rw [s1.get ha1]; exact hc) (by have := @swp_ent M a c p ha hp; unfold ent at this h0; rw [this]; exact h0))
def bn : Nat → Nat → Nat
  | 0, b => b
  | n + 1, b => 2 * bn n b + 1
theorem run_snoc : ∀ {l : List Nat} {c : Nat} {M : Mat} {cs : List Nat}, run (l ++ [c]) M cs = match stp (run l M cs).1 (run l M cs).2.length c with | none => run l M cs | some M' => (M', (run l M cs).2 ++ [c])
  | [], c, M, cs => by
    show run [c] M cs = _
    unfold run
    dsimp only [run] <;> (cases stp M cs.length c <;> rfl)
  | d :: l, c, M, cs => by
    rw [List.cons_append]
    unfold run
    cases e : stp M cs.length d with
    | none => exact run_snoc
    | some M' => exact run_snoc
theorem MZ.run {b w n : Nat} {M : Mat} (h : MZ b M) (s : Shp M w) : ∀ {k : Nat}, k ≤ n → n ≤ w → MZ (bn k b) (Km.run (List.range k) M []).1
  | 0, _, _ => h
  | k + 1, hk, hw => by
    have ih := MZ.run (n := n) h s (k := k) (by omega) hw
    have o := run_all (n := k) s
    rw [List.range_succ, run_snoc]
    unfold stp
    cases e : places (Km.run (List.range k) M []).1 (Km.run (List.range k) M []).2.length k with
    | nil => exact fun r hr => (ih r hr).mono (by show bn k b ≤ 2 * bn k b + 1; omega)
    | cons p ps =>
      obtain ⟨h1, h2, h3⟩ := places_mem (show p ∈ places (Km.run (List.range k) M []).1 (Km.run (List.range k) M []).2.length k by rw [e]; simp)
      dsimp only
      rw [stp1_pre]
      exact (ih.pre o.shp (by omega) (by omega) h2 h3).clr (pre_shp o.shp (by omega) h2) (by omega) (by rw [pre_len]; omega) List.nodup_range (by simp [pre_len])
end Km

set_option Elab.async false
set_option linter.all false
set_option maxRecDepth 100000
set_option maxHeartbeats 4000000
/-! # The defs of this program: their meanings -/
namespace Wk
open PySem PySem.Spec PyProof.Rows L2
noncomputable section
def k_ct_BadTable : Str → Option Bool := fun c => if c == "BadTable" then some true else none
def k_hd : List (Str × (Str → Option Bool)) := [("BadTable", k_ct_BadTable)]
/-- the i-th statement of the program -/
def k_top (i : Nat) : Stmt := PySem.Challenge.pw_wattkeep_k01_whole_systems.main.body.getD i (.Pass ⟨0, 0, 0, 0⟩)
def k_gls : List (Str × D) := [("NOUGHT", .tup [.int 0, .int 1]), ("ONE", .tup [.int 1, .int 1]), ("MOST", .int 40)]
def k_bl : List Str := ["len", "isinstance", "tuple", "list", "int", "max", "min", "all", "range", "zip", "bool"]
def k_rz : List Str := ["BadTable"]
/-! is_ratio -/
def k_N_is_ratio : List Str := ["thing", "part"]
def k_s_is_ratio : Cs := ⟨⟨k_N_is_ratio, defScope (k_top 7), fun _ => true, true, [], k_gls, k_bl, true⟩, [], k_rz, k_hd⟩
def k_b_is_ratio_1 : SmS :=
(cSeq (cIfS (cOr (cNot (cL pIsi (cCons (cVar 1) (cCons (cC (.ty "int")) cNil)))) (cL pIsi (cCons (cVar 1) (cCons (cC (.ty "bool")) cNil))))
(cSeq (cRet (cC (.bl false)))
cNx)
cNx)
cNx)
def k_g_is_ratio : SmS :=
(cSeq (cIfS (cOr (cNot (cL pIsi (cCons (cVar 0) (cCons (cC (.ty "tuple")) cNil)))) (c2 pNes (cL pLen (cCons (cVar 0) cNil)) (cC (.int 2))))
(cSeq (cRet (cC (.bl false)))
cNx)
cNx)
(cSeq (cFor (.nm 1) (cSeqI (cVar 0)) k_b_is_ratio_1)
(cSeq (cRet (cAnd (c2 pGt (c2 pIdx (cVar 0) (cC (.int 1))) (cC (.int 0))) (c2 pEqs (cL pGcd (cCons (c2 pIdx (cVar 0) (cC (.int 0))) (cCons (c2 pIdx (cVar 0) (cC (.int 1))) cNil))) (cC (.int 1)))))
cNx)))
theorem k_d_is_ratio : denSs 30 k_s_is_ratio (defBody (k_top 7)) = some k_g_is_ratio := rfl
def k_f_is_ratio : Fn := runDef 2 k_g_is_ratio
def k_T_is_ratio : List (Str × Nat × Fn) := ("is_ratio", 1, k_f_is_ratio) :: []
/-! ratio -/
def k_N_ratio : List Str := ["top", "low", "part"]
def k_s_ratio : Cs := ⟨⟨k_N_ratio, defScope (k_top 8), fun _ => true, true, k_T_is_ratio, k_gls, k_bl, true⟩, [], k_rz, k_hd⟩
def k_g_ratio : SmS :=
(cSeq (cAsg 2 (cL pGcd (cCons (cVar 0) (cCons (cVar 1) cNil))))
(cSeq (cIfS (c2 pLt (cVar 1) (cC (.int 0)))
(cSeq (cAsg 2 (c1 pNeg (cVar 2)))
cNx)
cNx)
(cSeq (cRet (cTup (cCons (cFr (c2 pDiv (cVar 0) (cVar 2))) (cCons (cFr (c2 pDiv (cVar 1) (cVar 2))) cNil))))
cNx)))
theorem k_d_ratio : denSs 30 k_s_ratio (defBody (k_top 8)) = some k_g_ratio := rfl
def k_f_ratio : Fn := runDef 3 k_g_ratio
def k_T_ratio : List (Str × Nat × Fn) := ("ratio", 2, k_f_ratio) :: k_T_is_ratio
/-! with_units -/
def k_N_with_units : List Str := ["rows", "rights", "many", "found", "at", "units", "place"]
def k_s_with_units : Cs := ⟨⟨k_N_with_units, defScope (k_top 20), fun _ => true, true, k_T_ratio, k_gls, k_bl, true⟩, [(67, [5])], k_rz, k_hd⟩
def k_e_with_units_1 : Sm :=
(cIf (c2 pEqs (cVar 4) (cVar 6)) (cC (.tup [.int 1, .int 1])) (cC (.tup [.int 0, .int 1])))
def k_b_with_units_2 : SmS :=
(cSeq (cAsg 5 (cComp [6] (.nm 6) (cRng1 (cCons (cVar 2) cNil)) (cC (.bl true)) k_e_with_units_1))
(cSeq (cShr [5] (cApp 3 (cLst (cStar (c2 pIdx (cVar 0) (cVar 4)) (cCons (cFr (c2 pIdx (cVar 1) (cVar 4))) (cStar (cVar 5) cNil))))))
cNx))
def k_g_with_units : SmS :=
(cSeq (cPar [2, 3] (cCons (cL pLen (cCons (cVar 0) cNil)) (cCons (cLst cNil) cNil)))
(cSeq (cFor (.nm 4) (cRng1 (cCons (cVar 2) cNil)) k_b_with_units_2)
(cSeq (cRet (cVar 3))
cNx)))
theorem k_d_with_units : denSs 30 k_s_with_units (defBody (k_top 20)) = some k_g_with_units := rfl
def k_f_with_units : Fn := runDef 7 k_g_with_units
def k_T_with_units : List (Str × Nat × Fn) := ("with_units", 2, k_f_with_units) :: k_T_ratio
/-! _law_taken -/
def k_N__law_taken : List Str := ["_law_row", "_law_many", "_law_found", "_law_cell"]
def k_s__law_taken : Cs := ⟨⟨k_N__law_taken, defScope (k_top 25), fun _ => true, true, k_T_with_units, k_gls, k_bl, true⟩, [], k_rz, k_hd⟩
def k_g__law_taken : SmS :=
(cSeq (cIfS (c2 pGt (c2 pIdx (cVar 0) (cC (.int 3))) (cC (.int 0)))
(cSeq (cAsg 2 (c2 pMod (cL pInt (cCons (c2 pIdx (cVar 0) (cC (.int 3))) cNil)) (cVar 1)))
(cSeq (cSetI 0 (cC (.int 3)) (c2 pDiv (c2 pIdx (cVar 0) (cC (.int 3))) (cVar 1)))
(cSeq (cRet (cVar 2))
cNx)))
cNx)
(cSeq (cSetI 0 (cC (.int 1)) (c2 pAdd (c2 pIdx (cVar 0) (cC (.int 1))) (cC (.int 1))))
(cSeq (cIfS (c2 pGt (c2 pIdx (cVar 0) (cC (.int 1))) (cL pLen (cCons (c2 pIdx (cVar 0) (cC (.int 0))) cNil)))
(cSeq (cSetI 0 (cC (.int 2)) (c2 pMod (cL pInt (cCons (c2 pAdd (c2 pMul (c2 pIdx (cVar 0) (cC (.int 2))) (cC (.int 48271))) (cC (.int 11))) cNil)) (cC (.int 2147483647))))
(cSeq (cRet (c2 pMod (cL pInt (cCons (c2 pDiv (c2 pIdx (cVar 0) (cC (.int 2))) (cC (.int 7))) cNil)) (cVar 1)))
cNx))
cNx)
(cSeq (cAsg 3 (c2 pIdx (c2 pIdx (cVar 0) (cC (.int 0))) (c2 pSub (c2 pIdx (cVar 0) (cC (.int 1))) (cC (.int 1)))))
(cSeq (cSetI 0 (cC (.int 2)) (c2 pMod (cL pInt (cCons (c2 pAdd (c2 pAdd (c2 pMul (c2 pIdx (cVar 0) (cC (.int 2))) (cC (.int 48271))) (cVar 3)) (cC (.int 11))) cNil)) (cC (.int 2147483647))))
(cSeq (cIfS (c2 pGe (cVar 3) (c2 pPow (cC (.int 10)) (cC (.int 18))))
(cSeq (cSetI 0 (cC (.int 3)) (c2 pDiv (cVar 3) (cVar 1)))
cNx)
cNx)
(cSeq (cRet (c2 pMod (cL pInt (cCons (cVar 3) cNil)) (cVar 1)))
cNx)))))))
theorem k_d__law_taken : denSs 30 k_s__law_taken (defBody (k_top 25)) = some k_g__law_taken := rfl
def k_f__law_taken : Fn := runDef 4 k_g__law_taken
def k_T__law_taken : List (Str × Nat × Fn) := ("_law_taken", 2, k_f__law_taken) :: k_T_with_units
/-! _law_low -/
def k_N__law_low : List Str := ["_law_top", "_law_low_here", "_law_one", "_law_other"]
def k_s__law_low : Cs := ⟨⟨k_N__law_low, defScope (k_top 27), fun _ => true, true, k_T__law_taken, k_gls, k_bl, true⟩, [], k_rz, k_hd⟩
def k_c__law_low_1 : Sm :=
(c2 pGt (cVar 3) (cC (.int 0)))
def k_b__law_low_2 : SmS :=
(cSeq (cPar [2, 3] (cCons (cVar 3) (cCons (c2 pMod (cVar 2) (cVar 3)) cNil)))
cNx)
def k_g__law_low : SmS :=
(cSeq (cPar [2, 3] (cCons (cL pMax (cCons (cVar 0) (cCons (c2 pSub (cC (.int 0)) (cVar 0)) cNil))) (cCons (cL pMax (cCons (cVar 1) (cCons (c2 pSub (cC (.int 0)) (cVar 1)) cNil))) cNil)))
(cSeq (whileE k_c__law_low_1 k_b__law_low_2)
(cSeq (cAsg 2 (cIf (c2 pGt (cVar 1) (cC (.int 0))) (cVar 2) (c2 pSub (cC (.int 0)) (cVar 2))))
(cSeq (cRet (cTup (cCons (cFr (c2 pDiv (cVar 0) (cVar 2))) (cCons (cFr (c2 pDiv (cVar 1) (cVar 2))) cNil))))
cNx))))
theorem k_d__law_low : denSs 30 k_s__law_low (defBody (k_top 27)) = some k_g__law_low := rfl
def k_f__law_low : Fn := runDef 4 k_g__law_low
def k_T__law_low : List (Str × Nat × Fn) := ("_law_low", 2, k_f__law_low) :: k_T__law_taken
/-! taken -/
def k_N_taken : List Str := ["one", "other"]
def k_s_taken : Cs := ⟨⟨k_N_taken, defScope (k_top 9), fun _ => true, true, k_T__law_low, k_gls, k_bl, true⟩, [], k_rz, k_hd⟩
def k_g_taken : SmS :=
(cSeq (cRet (cCall k_f_ratio (cCons (cFr (c2 pSub (c2 pMul (c2 pIdx (cVar 0) (cC (.int 0))) (c2 pIdx (cVar 1) (cC (.int 1)))) (c2 pMul (c2 pIdx (cVar 1) (cC (.int 0))) (c2 pIdx (cVar 0) (cC (.int 1)))))) (cCons (cFr (c2 pMul (c2 pIdx (cVar 0) (cC (.int 1))) (c2 pIdx (cVar 1) (cC (.int 1))))) cNil))))
cNx)
theorem k_d_taken : denSs 30 k_s_taken (defBody (k_top 9)) = some k_g_taken := rfl
def k_f_taken : Fn := runDef 2 k_g_taken
def k_T_taken : List (Str × Nat × Fn) := ("taken", 2, k_f_taken) :: k_T__law_low
/-! times -/
def k_N_times : List Str := ["one", "other"]
def k_s_times : Cs := ⟨⟨k_N_times, defScope (k_top 10), fun _ => true, true, k_T_taken, k_gls, k_bl, true⟩, [], k_rz, k_hd⟩
def k_g_times : SmS :=
(cSeq (cRet (cCall k_f_ratio (cCons (cFr (c2 pMul (c2 pIdx (cVar 0) (cC (.int 0))) (c2 pIdx (cVar 1) (cC (.int 0))))) (cCons (cFr (c2 pMul (c2 pIdx (cVar 0) (cC (.int 1))) (c2 pIdx (cVar 1) (cC (.int 1))))) cNil))))
cNx)
theorem k_d_times : denSs 30 k_s_times (defBody (k_top 10)) = some k_g_times := rfl
def k_f_times : Fn := runDef 2 k_g_times
def k_T_times : List (Str × Nat × Fn) := ("times", 2, k_f_times) :: k_T_taken
/-! over -/
def k_N_over : List Str := ["one", "other"]
def k_s_over : Cs := ⟨⟨k_N_over, defScope (k_top 11), fun _ => true, true, k_T_times, k_gls, k_bl, true⟩, [], k_rz, k_hd⟩
def k_g_over : SmS :=
(cSeq (cRet (cCall k_f_ratio (cCons (cFr (c2 pMul (c2 pIdx (cVar 0) (cC (.int 0))) (c2 pIdx (cVar 1) (cC (.int 1))))) (cCons (cFr (c2 pMul (c2 pIdx (cVar 0) (cC (.int 1))) (c2 pIdx (cVar 1) (cC (.int 0))))) cNil))))
cNx)
theorem k_d_over : denSs 30 k_s_over (defBody (k_top 11)) = some k_g_over := rfl
def k_f_over : Fn := runDef 2 k_g_over
def k_T_over : List (Str × Nat × Fn) := ("over", 2, k_f_over) :: k_T_times
/-! is_table -/
def k_N_is_table : List Str := ["rows", "row", "number"]
def k_s_is_table : Cs := ⟨⟨k_N_is_table, defScope (k_top 14), fun _ => true, true, k_T_over, k_gls, k_bl, true⟩, [], k_rz, k_hd⟩
def k_e_is_table_1 : Sm :=
(cCall k_f_is_ratio (cCons (cFr (cVar 2)) cNil))
def k_b_is_table_2 : SmS :=
(cSeq (cIfS (cOr (cNot (cL pIsi (cCons (cVar 1) (cCons (cC (.ty "tuple")) cNil)))) (cOr (cNot (cChain pLe pLe (cC (.int 1)) (cL pLen (cCons (cVar 1) cNil)) (cC (.int 40)))) (c2 pNes (cL pLen (cCons (cVar 1) cNil)) (cL pLen (cCons (c2 pIdx (cVar 0) (cC (.int 0))) cNil)))))
(cSeq (cRet (cC (.bl false)))
cNx)
cNx)
(cSeq (cIfS (cNot (cL pAll (cCons (cComp [2] (.nm 2) (cSeqI (cVar 1)) (cC (.bl true)) k_e_is_table_1) cNil)))
(cSeq (cRet (cC (.bl false)))
cNx)
cNx)
cNx))
def k_g_is_table : SmS :=
(cSeq (cIfS (cOr (cNot (cL pIsi (cCons (cVar 0) (cCons (cC (.ty "tuple")) cNil)))) (cNot (cChain pLe pLe (cC (.int 1)) (cL pLen (cCons (cVar 0) cNil)) (cC (.int 40)))))
(cSeq (cRet (cC (.bl false)))
cNx)
cNx)
(cSeq (cFor (.nm 1) (cSeqI (cVar 0)) k_b_is_table_2)
(cSeq (cRet (cC (.bl true)))
cNx)))
theorem k_d_is_table : denSs 30 k_s_is_table (defBody (k_top 14)) = some k_g_is_table := rfl
def k_f_is_table : Fn := runDef 3 k_g_is_table
def k_T_is_table : List (Str × Nat × Fn) := ("is_table", 1, k_f_is_table) :: k_T_over
/-! _law_pick -/
def k_N__law_pick : List Str := ["_law_row", "_law_things"]
def k_s__law_pick : Cs := ⟨⟨k_N__law_pick, defScope (k_top 26), fun _ => true, true, k_T_is_table, k_gls, k_bl, true⟩, [], k_rz, k_hd⟩
def k_g__law_pick : SmS :=
(cSeq (cRet (c2 pIdx (cVar 1) (cCall k_f__law_taken (cCons (cFr (cVar 0)) (cCons (cFr (cL pLen (cCons (cVar 1) cNil))) cNil)))))
cNx)
theorem k_d__law_pick : denSs 30 k_s__law_pick (defBody (k_top 26)) = some k_g__law_pick := rfl
def k_f__law_pick : Fn := runDef 2 k_g__law_pick
def k_T__law_pick : List (Str × Nat × Fn) := ("_law_pick", 2, k_f__law_pick) :: k_T_is_table
/-! _law_add -/
def k_N__law_add : List Str := ["_law_one", "_law_other"]
def k_s__law_add : Cs := ⟨⟨k_N__law_add, defScope (k_top 28), fun _ => true, true, k_T__law_pick, k_gls, k_bl, true⟩, [], k_rz, k_hd⟩
def k_g__law_add : SmS :=
(cSeq (cRet (cCall k_f__law_low (cCons (cFr (c2 pAdd (c2 pMul (c2 pIdx (cVar 0) (cC (.int 0))) (c2 pIdx (cVar 1) (cC (.int 1)))) (c2 pMul (c2 pIdx (cVar 1) (cC (.int 0))) (c2 pIdx (cVar 0) (cC (.int 1)))))) (cCons (cFr (c2 pMul (c2 pIdx (cVar 0) (cC (.int 1))) (c2 pIdx (cVar 1) (cC (.int 1))))) cNil))))
cNx)
theorem k_d__law_add : denSs 30 k_s__law_add (defBody (k_top 28)) = some k_g__law_add := rfl
def k_f__law_add : Fn := runDef 2 k_g__law_add
def k_T__law_add : List (Str × Nat × Fn) := ("_law_add", 2, k_f__law_add) :: k_T__law_pick
/-! _law_mul -/
def k_N__law_mul : List Str := ["_law_one", "_law_other"]
def k_s__law_mul : Cs := ⟨⟨k_N__law_mul, defScope (k_top 29), fun _ => true, true, k_T__law_add, k_gls, k_bl, true⟩, [], k_rz, k_hd⟩
def k_g__law_mul : SmS :=
(cSeq (cRet (cCall k_f__law_low (cCons (cFr (c2 pMul (c2 pIdx (cVar 0) (cC (.int 0))) (c2 pIdx (cVar 1) (cC (.int 0))))) (cCons (cFr (c2 pMul (c2 pIdx (cVar 0) (cC (.int 1))) (c2 pIdx (cVar 1) (cC (.int 1))))) cNil))))
cNx)
theorem k_d__law_mul : denSs 30 k_s__law_mul (defBody (k_top 29)) = some k_g__law_mul := rfl
def k_f__law_mul : Fn := runDef 2 k_g__law_mul
def k_T__law_mul : List (Str × Nat × Fn) := ("_law_mul", 2, k_f__law_mul) :: k_T__law_add
/-! _law_ratio -/
def k_N__law_ratio : List Str := ["_law_row", "_law_most"]
def k_s__law_ratio : Cs := ⟨⟨k_N__law_ratio, defScope (k_top 31), fun _ => true, true, k_T__law_mul, k_gls, k_bl, true⟩, [], k_rz, k_hd⟩
def k_g__law_ratio : SmS :=
(cSeq (cRet (cCall k_f__law_low (cCons (cFr (c2 pSub (cCall k_f__law_taken (cCons (cFr (cVar 0)) (cCons (cFr (c2 pAdd (c2 pMul (cC (.int 2)) (cVar 1)) (cC (.int 1)))) cNil))) (cVar 1))) (cCons (cFr (c2 pAdd (cC (.int 1)) (cCall k_f__law_taken (cCons (cFr (cVar 0)) (cCons (cFr (cC (.int 4))) cNil))))) cNil))))
cNx)
theorem k_d__law_ratio : denSs 30 k_s__law_ratio (defBody (k_top 31)) = some k_g__law_ratio := rfl
def k_f__law_ratio : Fn := runDef 2 k_g__law_ratio
def k_T__law_ratio : List (Str × Nat × Fn) := ("_law_ratio", 2, k_f__law_ratio) :: k_T__law_mul
/-! need_table -/
def k_N_need_table : List Str := ["rows"]
def k_s_need_table : Cs := ⟨⟨k_N_need_table, defScope (k_top 15), fun _ => true, true, k_T__law_ratio, k_gls, k_bl, true⟩, [], k_rz, k_hd⟩
def k_g_need_table : SmS :=
(cSeq (cIfS (cNot (cCall k_f_is_table (cCons (cFr (cVar 0)) cNil)))
(cSeq (cRaise "BadTable")
cNx)
cNx)
cNx)
theorem k_d_need_table : denSs 30 k_s_need_table (defBody (k_top 15)) = some k_g_need_table := rfl
def k_f_need_table : Fn := runDef 1 k_g_need_table
def k_T_need_table : List (Str × Nat × Fn) := ("need_table", 1, k_f_need_table) :: k_T__law_ratio
/-! less_times -/
def k_N_less_times : List Str := ["row", "other", "number", "one", "two"]
def k_s_less_times : Cs := ⟨⟨k_N_less_times, defScope (k_top 16), fun _ => true, true, k_T_need_table, k_gls, k_bl, true⟩, [], k_rz, k_hd⟩
def k_e_less_times_1 : Sm :=
(cIf (c2 pNes (c2 pIdx (cVar 4) (cC (.int 0))) (cC (.int 0))) (cCall k_f_taken (cCons (cFr (cVar 3)) (cCons (cFr (cCall k_f_times (cCons (cFr (cVar 4)) (cCons (cFr (cVar 2)) cNil)))) cNil))) (cVar 3))
def k_g_less_times : SmS :=
(cSeq (cRet (cComp [3, 4] (.tp [(.nm 3), (.nm 4)]) (cZip (cCons (cFr (cVar 0)) (cCons (cFr (cVar 1)) cNil))) (cC (.bl true)) k_e_less_times_1))
cNx)
theorem k_d_less_times : denSs 30 k_s_less_times (defBody (k_top 16)) = some k_g_less_times := rfl
def k_f_less_times : Fn := runDef 5 k_g_less_times
def k_T_less_times : List (Str × Nat × Fn) := ("less_times", 3, k_f_less_times) :: k_T_need_table
/-! _law_total -/
def k_N__law_total : List Str := ["_law_numbers", "_law_found", "_law_number"]
def k_s__law_total : Cs := ⟨⟨k_N__law_total, defScope (k_top 30), fun _ => true, true, k_T_less_times, k_gls, k_bl, true⟩, [], k_rz, k_hd⟩
def k_b__law_total_1 : SmS :=
(cSeq (cAsg 1 (cCall k_f__law_add (cCons (cFr (cVar 1)) (cCons (cFr (cVar 2)) cNil))))
cNx)
def k_g__law_total : SmS :=
(cSeq (cAsg 1 (cTup (cCons (cFr (cC (.int 0))) (cCons (cFr (cC (.int 1))) cNil))))
(cSeq (cFor (.nm 2) (cSeqI (cVar 0)) k_b__law_total_1)
(cSeq (cRet (cVar 1))
cNx)))
theorem k_d__law_total : denSs 30 k_s__law_total (defBody (k_top 30)) = some k_g__law_total := rfl
def k_f__law_total : Fn := runDef 3 k_g__law_total
def k_T__law_total : List (Str × Nat × Fn) := ("_law_total", 1, k_f__law_total) :: k_T_less_times
/-! stepped -/
def k_N_stepped : List Str := ["rows", "width", "columns", "at", "row", "column", "places", "place", "first", "number"]
def k_s_stepped : Cs := ⟨⟨k_N_stepped, defScope (k_top 17), fun _ => true, true, k_T__law_total, k_gls, k_bl, true⟩, [(45, [0]), (57, [0, 2])], k_rz, k_hd⟩
def k_b_stepped_1 : SmS :=
(cSeq (cIfS (cAnd (c2 pNes (cVar 7) (cVar 3)) (c2 pNes (c2 pIdx (c2 pIdx (c2 pIdx (cVar 0) (cVar 7)) (cVar 5)) (cC (.int 0))) (cC (.int 0))))
(cSeq (cSetI 0 (cVar 7) (cCall k_f_less_times (cCons (cFr (c2 pIdx (cVar 0) (cVar 7))) (cCons (cFr (c2 pIdx (cVar 0) (cVar 3))) (cCons (cFr (c2 pIdx (c2 pIdx (cVar 0) (cVar 7)) (cVar 5))) cNil)))))
cNx)
cNx)
cNx)
def k_e_stepped_2 : Sm :=
(cCall k_f_over (cCons (cFr (cVar 9)) (cCons (cFr (cVar 8)) cNil)))
def k_c_stepped_3 : Sm :=
(c2 pNes (c2 pIdx (c2 pIdx (c2 pIdx (cVar 0) (cVar 7)) (cVar 5)) (cC (.int 0))) (cC (.int 0)))
def k_e_stepped_4 : Sm :=
(cVar 7)
def k_b_stepped_5 : SmS :=
(cSeq (cAsg 6 (cComp [7] (.nm 7) (cRng2 (cCons (cVar 3) (cCons (cL pLen (cCons (cVar 0) cNil)) cNil))) k_c_stepped_3 k_e_stepped_4))
(cSeq (cIfS (c2 pNes (cVar 6) (cLst cNil))
(cSeq (cStore [.si 0 (cVar 3), .si 0 (c2 pIdx (cVar 6) (cC (.int 0)))] (cCons (c2 pIdx (cVar 0) (c2 pIdx (cVar 6) (cC (.int 0)))) (cCons (c2 pIdx (cVar 0) (cVar 3)) cNil)))
(cSeq (cAsg 8 (c2 pIdx (c2 pIdx (cVar 0) (cVar 3)) (cVar 5)))
(cSeq (cSetI 0 (cVar 3) (cComp [9] (.nm 9) (cSeqI (c2 pIdx (cVar 0) (cVar 3))) (cC (.bl true)) k_e_stepped_2))
(cSeq (cFor (.nm 7) (cRng1 (cCons (cL pLen (cCons (cVar 0) cNil)) cNil)) k_b_stepped_1)
(cSeq (cApp 2 (cVar 5))
(cSeq (cAug 3 .Add (cC (.int 1)))
cNx))))))
cNx)
cNx))
def k_e_stepped_6 : Sm :=
(cL pList (cCons (cVar 4) cNil))
def k_g_stepped : SmS :=
(cSeq (cShr [0] (cPar [0, 2, 3] (cCons (cComp [4] (.nm 4) (cSeqI (cVar 0)) (cC (.bl true)) k_e_stepped_6) (cCons (cLst cNil) (cCons (cC (.int 0)) cNil)))))
(cSeq (cFor (.nm 5) (cRng1 (cCons (cVar 1) cNil)) k_b_stepped_5)
(cSeq (cShr [0, 2] (cRet (cTup (cCons (cFr (cVar 0)) (cCons (cFr (cVar 2)) cNil)))))
cNx)))
theorem k_d_stepped : denSs 30 k_s_stepped (defBody (k_top 17)) = some k_g_stepped := rfl
def k_f_stepped : Fn := runDef 10 k_g_stepped
def k_T_stepped : List (Str × Nat × Fn) := ("stepped", 2, k_f_stepped) :: k_T__law_total
/-! _law_times -/
def k_N__law_times : List Str := ["_law_rows", "_law_point", "_law_one", "_law_two", "_law_line"]
def k_s__law_times : Cs := ⟨⟨k_N__law_times, defScope (k_top 32), fun _ => true, true, k_T_stepped, k_gls, k_bl, true⟩, [], k_rz, k_hd⟩
def k_e__law_times_1 : Sm :=
(cCall k_f__law_mul (cCons (cFr (cVar 2)) (cCons (cFr (cVar 3)) cNil)))
def k_e__law_times_2 : Sm :=
(cCall k_f__law_total (cCons (cFr (cComp [2, 3] (.tp [(.nm 2), (.nm 3)]) (cZip (cCons (cFr (cVar 4)) (cCons (cFr (cVar 1)) cNil))) (cC (.bl true)) k_e__law_times_1)) cNil))
def k_g__law_times : SmS :=
(cSeq (cRet (cComp [4] (.nm 4) (cSeqI (cVar 0)) (cC (.bl true)) k_e__law_times_2))
cNx)
theorem k_d__law_times : denSs 30 k_s__law_times (defBody (k_top 32)) = some k_g__law_times := rfl
def k_f__law_times : Fn := runDef 5 k_g__law_times
def k_T__law_times : List (Str × Nat × Fn) := ("_law_times", 2, k_f__law_times) :: k_T_stepped
/-! rank_of -/
def k_N_rank_of : List Str := ["rows"]
def k_s_rank_of : Cs := ⟨⟨k_N_rank_of, defScope (k_top 18), fun _ => true, true, k_T__law_times, k_gls, k_bl, true⟩, [], k_rz, k_hd⟩
def k_g_rank_of : SmS :=
(cSeq (cRet (cL pLen (cCons (c2 pIdx (cCall k_f_stepped (cCons (cFr (cVar 0)) (cCons (cFr (cL pLen (cCons (c2 pIdx (cVar 0) (cC (.int 0))) cNil))) cNil))) (cC (.int 1))) cNil)))
cNx)
theorem k_d_rank_of : denSs 30 k_s_rank_of (defBody (k_top 18)) = some k_g_rank_of := rfl
def k_f_rank_of : Fn := runDef 1 k_g_rank_of
def k_T_rank_of : List (Str × Nat × Fn) := ("rank_of", 1, k_f_rank_of) :: k_T__law_times
/-! solution -/
def k_N_solution : List Str := ["rows", "rights", "width", "simple", "columns", "row", "found", "column"]
def k_s_solution : Cs := ⟨⟨k_N_solution, defScope (k_top 21), fun _ => true, true, k_T_rank_of, k_gls, k_bl, true⟩, [], k_rz, k_hd⟩
def k_b_solution_1 : SmS :=
(cSeq (cSetI 6 (cVar 7) (c2 pIdx (cVar 5) (cVar 2)))
cNx)
def k_b_solution_2 : SmS :=
(cSeq (cIfS (c2 pNes (c2 pIdx (c2 pIdx (cVar 5) (cVar 2)) (cC (.int 0))) (cC (.int 0)))
(cSeq (cRet (cTup (cCons (cFr (cC (.str "none"))) (cCons (cFr (cL pTuple (cCons (cSl (cVar 5) (some (c2 pAdd (cVar 2) (cC (.int 1)))) none) cNil))) cNil))))
cNx)
cNx)
cNx)
def k_g_solution : SmS :=
(cSeq (cAsg 2 (cL pLen (cCons (c2 pIdx (cVar 0) (cC (.int 0))) cNil)))
(cSeq (cUn [3, 4] (cCall k_f_stepped (cCons (cFr (cCall k_f_with_units (cCons (cFr (cVar 0)) (cCons (cFr (cVar 1)) cNil)))) (cCons (cFr (cVar 2)) cNil))))
(cSeq (cFor (.nm 5) (cSeqI (cSl (cVar 3) (some (cL pLen (cCons (cVar 4) cNil))) none)) k_b_solution_2)
(cSeq (cAsg 6 (c2 pMul (cLst (cCons (cFr (cC (.tup [.int 0, .int 1]))) cNil)) (cVar 2)))
(cSeq (cFor (.tp [(.nm 5), (.nm 7)]) (cZip (cCons (cFr (cVar 3)) (cCons (cFr (cVar 4)) cNil))) k_b_solution_1)
(cSeq (cRet (cTup (cCons (cFr (cIf (c2 pEqs (cL pLen (cCons (cVar 4) cNil)) (cVar 2)) (cC (.str "one")) (cC (.str "many")))) (cCons (cFr (cL pTuple (cCons (cVar 6) cNil))) cNil))))
cNx))))))
theorem k_d_solution : denSs 30 k_s_solution (defBody (k_top 21)) = some k_g_solution := rfl
def k_f_solution : Fn := runDef 8 k_g_solution
def k_T_solution : List (Str × Nat × Fn) := ("solution", 2, k_f_solution) :: k_T_rank_of
/-! inverse -/
def k_N_inverse : List Str := ["rows", "many", "simple", "columns", "row"]
def k_s_inverse : Cs := ⟨⟨k_N_inverse, defScope (k_top 23), fun _ => true, true, k_T_solution, k_gls, k_bl, true⟩, [], k_rz, k_hd⟩
def k_e_inverse_1 : Sm :=
(cL pTuple (cCons (cSl (cVar 4) (some (c2 pAdd (cVar 1) (cC (.int 1)))) none) cNil))
def k_g_inverse : SmS :=
(cSeq (cExpr (cCall k_f_need_table (cCons (cFr (cVar 0)) cNil)))
(cSeq (cIfS (c2 pNes (cL pLen (cCons (cVar 0) cNil)) (cL pLen (cCons (c2 pIdx (cVar 0) (cC (.int 0))) cNil)))
(cSeq (cRaise "BadTable")
cNx)
cNx)
(cSeq (cAsg 1 (cL pLen (cCons (cVar 0) cNil)))
(cSeq (cUn [2, 3] (cCall k_f_stepped (cCons (cFr (cCall k_f_with_units (cCons (cFr (cVar 0)) (cCons (cFr (c2 pMul (cLst (cCons (cFr (cC (.tup [.int 0, .int 1]))) cNil)) (cVar 1))) cNil)))) (cCons (cFr (cVar 1)) cNil))))
(cSeq (cRet (cIf (c2 pEqs (cL pLen (cCons (cVar 3) cNil)) (cVar 1)) (cL pTuple (cCons (cComp [4] (.nm 4) (cSeqI (cVar 2)) (cC (.bl true)) k_e_inverse_1) cNil)) (cC (.non))))
cNx)))))
theorem k_d_inverse : denSs 30 k_s_inverse (defBody (k_top 23)) = some k_g_inverse := rfl
def k_f_inverse : Fn := runDef 5 k_g_inverse
def k_T_inverse : List (Str × Nat × Fn) := ("inverse", 1, k_f_inverse) :: k_T_solution
/-! rank -/
def k_N_rank : List Str := ["rows"]
def k_s_rank : Cs := ⟨⟨k_N_rank, defScope (k_top 19), fun _ => true, true, k_T_inverse, k_gls, k_bl, true⟩, [], k_rz, k_hd⟩
def k_g_rank : SmS :=
(cSeq (cExpr (cCall k_f_need_table (cCons (cFr (cVar 0)) cNil)))
(cSeq (cRet (cCall k_f_rank_of (cCons (cFr (cVar 0)) cNil)))
cNx))
theorem k_d_rank : denSs 30 k_s_rank (defBody (k_top 19)) = some k_g_rank := rfl
def k_f_rank : Fn := runDef 1 k_g_rank
def k_T_rank : List (Str × Nat × Fn) := ("rank", 1, k_f_rank) :: k_T_inverse
/-! solved -/
def k_N_solved : List Str := ["rows", "rights", "one"]
def k_s_solved : Cs := ⟨⟨k_N_solved, defScope (k_top 22), fun _ => true, true, k_T_rank, k_gls, k_bl, true⟩, [], k_rz, k_hd⟩
def k_e_solved_1 : Sm :=
(cCall k_f_is_ratio (cCons (cFr (cVar 2)) cNil))
def k_g_solved : SmS :=
(cSeq (cExpr (cCall k_f_need_table (cCons (cFr (cVar 0)) cNil)))
(cSeq (cIfS (cOr (cNot (cL pIsi (cCons (cVar 1) (cCons (cC (.ty "tuple")) cNil)))) (cOr (c2 pNes (cL pLen (cCons (cVar 1) cNil)) (cL pLen (cCons (cVar 0) cNil))) (cNot (cL pAll (cCons (cComp [2] (.nm 2) (cSeqI (cVar 1)) (cC (.bl true)) k_e_solved_1) cNil)))))
(cSeq (cRaise "BadTable")
cNx)
cNx)
(cSeq (cRet (cCall k_f_solution (cCons (cFr (cVar 0)) (cCons (cFr (cVar 1)) cNil))))
cNx)))
theorem k_d_solved : denSs 30 k_s_solved (defBody (k_top 22)) = some k_g_solved := rfl
def k_f_solved : Fn := runDef 3 k_g_solved
def k_T_solved : List (Str × Nat × Fn) := ("solved", 2, k_f_solved) :: k_T_rank
/-! law -/
def k_N_law : List Str := ["_law_script", "_law_row", "_law_many", "_law_width", "_law_rows", "_law_column", "_law_turn", "_law_part", "_law_one", "_law_table", "_law_point", "_law_rights", "_law_line", "_law_told", "_law_count", "_law_sums", "_law_at", "_law_two", "_law_square", "_law_back", "_law_unit", "_law_place", "e"]
def k_s_law : Cs := ⟨⟨k_N_law, defScope (k_top 33), fun _ => true, true, k_T_solved, k_gls, k_bl, true⟩, [(135, [10, 4]), (140, [4]), (141, [15]), (149, [4])], k_rz, k_hd⟩
def k_e_law_1 : Sm :=
(c2 pIdx (cVar 12) (cVar 16))
def k_e_law_2 : Sm :=
(cIf (c2 pEqs (cVar 21) (cVar 16)) (cTup (cCons (cFr (cC (.int 1))) (cCons (cFr (cC (.int 1))) cNil))) (cTup (cCons (cFr (cC (.int 0))) (cCons (cFr (cC (.int 1))) cNil))))
def k_b_law_3 : SmS :=
(cSeq (cAsg 20 (cComp [21] (.nm 21) (cRng1 (cCons (cVar 2) cNil)) (cC (.bl true)) k_e_law_2))
(cSeq (cIfS (cAnd (c2 pIsnt (cVar 19) (cC (.non))) (c2 pNes (cCall k_f__law_times (cCons (cFr (cVar 18)) (cCons (cFr (cComp [12] (.nm 12) (cSeqI (cVar 19)) (cC (.bl true)) k_e_law_1)) cNil))) (cVar 20)))
(cSeq (cRet (cC (.bl false)))
cNx)
cNx)
cNx))
def k_e_law_4 : Sm :=
(cCall k_f__law_ratio (cCons (cFr (cVar 1)) (cCons (cFr (cC (.int 3))) cNil)))
def k_e_law_5 : Sm :=
(cL pTuple (cCons (cComp [5] (.nm 5) (cRng1 (cCons (cVar 2) cNil)) (cC (.bl true)) k_e_law_4) cNil))
def k_e_law_6 : Sm :=
(c2 pIdx (cVar 12) (cVar 16))
def k_e_law_7 : Sm :=
(cL pTuple (cCons (cComp [12] (.nm 12) (cSeqI (cVar 4)) (cC (.bl true)) k_e_law_6) cNil))
def k_e_law_8 : Sm :=
(cCall k_f__law_mul (cCons (cFr (cVar 8)) (cCons (cFr (cVar 17)) cNil)))
def k_c_law_9 : Sm :=
(c2 pNes (cVar 8) (cTup (cCons (cFr (cC (.int 0))) (cCons (cFr (cC (.int 1))) cNil))))
def k_e_law_10 : Sm :=
(cVar 8)
def k_e_law_11 : Sm :=
(c2 pIdx (cVar 12) (cVar 16))
def k_e_law_12 : Sm :=
(cL pTuple (cCons (cComp [12] (.nm 12) (cSeqI (cVar 4)) (cC (.bl true)) k_e_law_11) cNil))
def k_e_law_13 : Sm :=
(cCall k_f__law_ratio (cCons (cFr (cVar 1)) (cCons (cFr (cC (.int 3))) cNil)))
def k_e_law_14 : Sm :=
(cCall k_f__law_ratio (cCons (cFr (cVar 1)) (cCons (cFr (cC (.int 3))) cNil)))
def k_e_law_15 : Sm :=
(cCall k_f__law_mul (cCons (cFr (cVar 7)) (cCons (cFr (cVar 8)) cNil)))
def k_e_law_16 : Sm :=
(cCall k_f__law_ratio (cCons (cFr (cVar 1)) (cCons (cFr (cC (.int 3))) cNil)))
def k_e_law_17 : Sm :=
(cL pTuple (cCons (cComp [5] (.nm 5) (cRng1 (cCons (cVar 3) cNil)) (cC (.bl true)) k_e_law_16) cNil))
def k_g_law : SmS :=
(cSeq (cMkRow 1 (cLst (cCons (cFr (cVar 0)) (cCons (cFr (cC (.int 0))) (cCons (cFr (cC (.int 7101))) (cCons (cFr (cC (.int 0))) cNil))))))
(cSeq (cPar [2, 3] (cCons (c2 pAdd (cC (.int 1)) (cCall k_f__law_taken (cCons (cFr (cVar 1)) (cCons (cFr (cC (.int 4))) cNil)))) (cCons (c2 pAdd (cC (.int 1)) (cCall k_f__law_taken (cCons (cFr (cVar 1)) (cCons (cFr (cC (.int 4))) cNil)))) cNil)))
(cSeq (cAsg 4 (cComp [6] (.nm 6) (cRng1 (cCons (cVar 2) cNil)) (cC (.bl true)) k_e_law_17))
(cSeq (cIfS (cAnd (c2 pGt (cVar 2) (cC (.int 1))) (c2 pEqs (cCall k_f__law_taken (cCons (cFr (cVar 1)) (cCons (cFr (cC (.int 2))) cNil))) (cC (.int 0))))
(cSeq (cAsg 7 (cCall k_f__law_ratio (cCons (cFr (cVar 1)) (cCons (cFr (cC (.int 2))) cNil))))
(cSeq (cSetI 4 (cC (.int 0)) (cL pTuple (cCons (cComp [8] (.nm 8) (cSeqI (c2 pIdx (cVar 4) (cC (.int 1)))) (cC (.bl true)) k_e_law_15) cNil)))
cNx))
cNx)
(cSeq (cPar [9, 10] (cCons (cL pTuple (cCons (cVar 4) cNil)) (cCons (cComp [5] (.nm 5) (cRng1 (cCons (cVar 3) cNil)) (cC (.bl true)) k_e_law_14) cNil)))
(cSeq (cShr [10, 4] (cAsg 11 (cL pTuple (cCons (cIf (c2 pEqs (cCall k_f__law_taken (cCons (cFr (cVar 1)) (cCons (cFr (cC (.int 2))) cNil))) (cC (.int 0))) (cCall k_f__law_times (cCons (cFr (cVar 9)) (cCons (cFr (cVar 10)) cNil))) (cComp [12] (.nm 12) (cSeqI (cVar 4)) (cC (.bl true)) k_e_law_13)) cNil))))
(cSeq (cPar [13, 14] (cCons (cCall k_f_solved (cCons (cFr (cVar 9)) (cCons (cFr (cVar 11)) cNil))) (cCons (cCall k_f_rank (cCons (cFr (cVar 9)) cNil)) cNil)))
(cSeq (cIfS (cOr (cL pIsi (cCons (cVar 14) (cCons (cC (.ty "bool")) cNil))) (cOr (cNot (cL pIsi (cCons (cVar 14) (cCons (cC (.ty "int")) cNil)))) (cNot (cChain pLe pLe (cC (.int 0)) (cVar 14) (cL pMin (cCons (cVar 2) (cCons (cVar 3) cNil)))))))
(cSeq (cRet (cC (.bl false)))
cNx)
cNx)
(cSeq (cIfS (c2 pEqs (c2 pIdx (cVar 13) (cC (.int 0))) (cC (.str "none")))
(cSeq (cShr [4] (cAsg 15 (cCall k_f__law_times (cCons (cFr (cComp [16] (.nm 16) (cRng1 (cCons (cVar 3) cNil)) (cC (.bl true)) k_e_law_12)) (cCons (cFr (c2 pIdx (cVar 13) (cC (.int 1)))) cNil)))))
(cSeq (cShr [15] (cIfS (cOr (c2 pNes (cComp [8] (.nm 8) (cSeqI (cVar 15)) k_c_law_9 k_e_law_10) (cLst cNil)) (c2 pNes (cL pLen (cCons (c2 pIdx (cVar 13) (cC (.int 1))) cNil)) (cVar 2)))
(cSeq (cRet (cC (.bl false)))
cNx)
cNx))
(cSeq (cIfS (c2 pEqs (c2 pIdx (cCall k_f__law_total (cCons (cFr (cComp [8, 17] (.tp [(.nm 8), (.nm 17)]) (cZip (cCons (cFr (c2 pIdx (cVar 13) (cC (.int 1)))) (cCons (cFr (cVar 11)) cNil))) (cC (.bl true)) k_e_law_8)) cNil)) (cC (.int 0))) (cC (.int 0)))
(cSeq (cRet (cC (.bl false)))
cNx)
cNx)
cNx)))
(cSeq (cIfS (cOr (c2 pNes (cL pLen (cCons (c2 pIdx (cVar 13) (cC (.int 1))) cNil)) (cVar 3)) (c2 pNes (cCall k_f__law_times (cCons (cFr (cVar 9)) (cCons (cFr (c2 pIdx (cVar 13) (cC (.int 1)))) cNil))) (cL pList (cCons (cVar 11) cNil))))
(cSeq (cRet (cC (.bl false)))
cNx)
(cSeq (cIfS (c2 pNes (c2 pIdx (cVar 13) (cC (.int 0))) (cIf (c2 pEqs (cVar 14) (cVar 3)) (cC (.str "one")) (cC (.str "many"))))
(cSeq (cRet (cC (.bl false)))
cNx)
cNx)
cNx))
cNx))
(cSeq (cShr [4] (cIfS (c2 pNes (cCall k_f_rank (cCons (cFr (cL pTuple (cCons (cComp [16] (.nm 16) (cRng1 (cCons (cVar 3) cNil)) (cC (.bl true)) k_e_law_7) cNil))) cNil)) (cVar 14))
(cSeq (cRet (cC (.bl false)))
cNx)
cNx))
(cSeq (cAsg 18 (cL pTuple (cCons (cComp [6] (.nm 6) (cRng1 (cCons (cVar 2) cNil)) (cC (.bl true)) k_e_law_5) cNil)))
(cSeq (cAsg 19 (cCall k_f_inverse (cCons (cFr (cVar 18)) cNil)))
(cSeq (cIfS (c2 pNes (c2 pIs (cVar 19) (cC (.non))) (c2 pLt (cCall k_f_rank (cCons (cFr (cVar 18)) cNil)) (cVar 2)))
(cSeq (cRet (cC (.bl false)))
cNx)
cNx)
(cSeq (cFor (.nm 16) (cRng1 (cCons (cVar 2) cNil)) k_b_law_3)
(cSeq (cTry 22 k_ct_BadTable (cSeq (cExpr (cCall k_f_rank (cCons (cFr (cCall k_f__law_pick (cCons (cFr (cVar 1)) (cCons (cFr (cLst (cCons (cFr (cTup cNil)) (cCons (cFr (cTup (cCons (cFr (cTup cNil)) cNil))) (cCons (cFr (cTup (cCons (cFr (cTup (cCons (cFr (cTup (cCons (cFr (cC (.int 1))) (cCons (cFr (cC (.int 1))) cNil)))) cNil))) (cCons (cFr (cTup (cCons (cFr (cTup (cCons (cFr (cC (.int 1))) (cCons (cFr (cC (.int 1))) cNil)))) (cCons (cFr (cTup (cCons (cFr (cC (.int 1))) (cCons (cFr (cC (.int 2))) cNil)))) cNil)))) cNil)))) (cCons (cFr (cTup (cCons (cFr (cTup (cCons (cFr (cTup (cCons (cFr (cC (.int 2))) (cCons (cFr (cC (.int 2))) cNil)))) cNil))) cNil))) (cCons (cFr (cLst (cCons (cFr (cTup (cCons (cFr (cTup (cCons (cFr (cC (.int 1))) (cCons (cFr (cC (.int 1))) cNil)))) cNil))) cNil))) (cCons (cFr (cTup (cCons (cFr (cTup (cCons (cFr (cTup (cCons (cFr (cC (.bl true))) (cCons (cFr (cC (.int 1))) cNil)))) cNil))) cNil))) cNil)))))))) cNil)))) cNil)))
cNx)
(cSeq (cRet (cC (.bl true)))
cNx))
(cSeq (cRet (cC (.bl false)))
cNx))))))))))))))))
theorem k_d_law : denSs 30 k_s_law (defBody (k_top 33)) = some k_g_law := rfl
def k_f_law : Fn := runDef 23 k_g_law
def k_T_law : List (Str × Nat × Fn) := ("law", 1, k_f_law) :: k_T_solved
end
end Wk

set_option Elab.async false
set_option linter.all false
set_option maxRecDepth 100000
set_option maxHeartbeats 4000000
namespace Wk
open PySem PySem.Spec
theorem t_ratio {a b : Int} {W : Ro} {n : Nat} (hb : b ≠ 0) (h : b.natAbs < 2 ^ n) (hn : 0 < n) (hn2 : n ≤ 9000) : k_f_ratio [.int a, .int b] W = some (.val (enc (Rat.divInt a b)) .sh W) := by
  have hg := gcd_lt (a := a) hb h hn hn2
  have h0 := gcd_ne (a := a) hb
  have hg' : (-((Nat.gcd a.natAbs b.natAbs : Nat) : Int)).natAbs.log2 < 9000 := by rw [Int.natAbs_neg]; exact hg
  have h0' : -((Nat.gcd a.natAbs b.natAbs : Nat) : Int) ≠ 0 := by omega
  have := @low_ok a b _ hb rfl
  have q1 := @gDiv_of a _ h0 hg
  have q2 := @gDiv_of b _ h0 hg
  have q3 := @gDiv_of a _ h0' hg'
  have q4 := @gDiv_of b _ h0' hg'
  by_cases hl : b < 0
  · rw [if_pos hl] at this
    simp [k_f_ratio, k_g_ratio, runDef, env0, hl, q3, q4, lim, enc, this]
  · rw [if_neg hl] at this
    simp [k_f_ratio, k_g_ratio, runDef, env0, hl, q1, q2, lim, enc, this]
theorem t_times {a b : Rat} {W : Ro} {n m : Nat} (ha : Sz n a) (hb : Sz m b) (h : n + m ≤ 8000) : k_f_times [enc a, enc b] W = some (.val (enc (a * b)) .sh W) := by
  have m1 := @mul_ii W a.num b.num (log_mul ha.1 hb.1 (by omega))
  have m2 := @mul_ii W a.den b.den (log_mul (by simpa using ha.2) (by simpa using hb.2) (by omega))
  have r := @t_ratio (a.num * b.num) (a.den * b.den) W (n + m + 1) (Int.ne_of_gt (Int.mul_pos (den_pos a) (den_pos b))) (by rw [Int.natAbs_mul]; exact Nat.lt_of_lt_of_le (mul_lt ha.2 hb.2) (Nat.pow_le_pow_right (by omega) (by omega))) (by omega) (by omega)
  rw [← mul_divInt] at r
  simp [k_f_times, k_g_times, runDef, env0, m1, m2, r]
theorem t_taken {a b : Rat} {W : Ro} {n m : Nat} (ha : Sz n a) (hb : Sz m b) (h : n + m ≤ 8000) : k_f_taken [enc a, enc b] W = some (.val (enc (a - b)) .sh W) := by
  have m1 := @mul_ii W a.num b.den (log_mul ha.1 (by simpa using hb.2) (by omega))
  have m3 := @mul_ii W b.num a.den (log_mul hb.1 (by simpa using ha.2) (by omega))
  have m2 := @mul_ii W a.den b.den (log_mul (by simpa using ha.2) (by simpa using hb.2) (by omega))
  have r := @t_ratio (a.num * b.den - b.num * a.den) (a.den * b.den) W (n + m + 1) (Int.ne_of_gt (Int.mul_pos (den_pos a) (den_pos b))) (by rw [Int.natAbs_mul]; exact Nat.lt_of_lt_of_le (mul_lt ha.2 hb.2) (Nat.pow_le_pow_right (by omega) (by omega))) (by omega) (by omega)
  rw [← sub_divInt] at r
  simp [k_f_taken, k_g_taken, runDef, env0, m1, m2, m3, r]
theorem t_over {a b : Rat} {W : Ro} {n m : Nat} (ha : Sz n a) (hb : Sz m b) (h0 : b ≠ 0) (h : n + m ≤ 8000) : k_f_over [enc a, enc b] W = some (.val (enc (a / b)) .sh W) := by
  have hb0 : b.num ≠ 0 := fun e => h0 (Rat.num_eq_zero.mp e)
  have m1 := @mul_ii W a.num b.den (log_mul ha.1 (by simpa using hb.2) (by omega))
  have m2 := @mul_ii W a.den b.num (log_mul (by simpa using ha.2) hb.1 (by omega))
  have r := @t_ratio (a.num * b.den) (a.den * b.num) W (n + m + 1) (Int.mul_ne_zero (Int.ne_of_gt (den_pos a)) hb0) (by rw [Int.natAbs_mul]; exact Nat.lt_of_lt_of_le (mul_lt ha.2 hb.1) (Nat.pow_le_pow_right (by omega) (by omega))) (by omega) (by omega)
  rw [← div_divInt] at r
  simp [k_f_over, k_g_over, runDef, env0, m1, m2, r]
/-! ### the law's own ratios -/
theorem whileN_step {c : Sm} {b : SmS} {n : Nat} {ρ ρ2 : Env'} {W W1 W2 : Ro} {k : Kd} (h1 : c ρ W = some (.val (.bl true) k W1)) (h2 : b ρ W1 = some (.nx ρ2 W2)) : whileN c b (n + 1) ρ W = whileN c b n ρ2 W2 := by
  rw [whileN.eq_def]
  dsimp only
  rw [h1]
  dsimp only
  rw [h2]
theorem whileN_stop {c : Sm} {b : SmS} {n : Nat} {ρ : Env'} {W W1 : Ro} {k : Kd} (h1 : c ρ W = some (.val (.bl false) k W1)) : whileN c b (n + 1) ρ W = some (.nx ρ W1) := by
  rw [whileN.eq_def]
  dsimp only
  rw [h1]
abbrev lowC : Sm := k_c__law_low_1
abbrev lowB : SmS := k_b__law_low_2
theorem low_loop {t l : D} {W : Ro} : ∀ (b a : Nat), ∃ n, whileN lowC lowB n [.sh t, .sh l, .sh (.int a), .sh (.int b)] W = some (.nx [.sh t, .sh l, .sh (.int (Nat.gcd a b : Nat)), .sh (.int 0)] W) := by
  intro b
  induction b using Nat.strongRecOn with
  | ind b ih =>
    intro a
    by_cases hb : b = 0
    · subst hb
      refine ⟨1, ?_⟩
      rw [whileN_stop (k := .sh) (W1 := W)]
      · simp
      · simp [k_c__law_low_1]
    · obtain ⟨n, e⟩ := ih (a % b) (Nat.mod_lt _ (by omega)) b
      refine ⟨n + 1, ?_⟩
      rw [whileN_step (k := .sh) (W1 := W) (W2 := W) (ρ2 := [.sh t, .sh l, .sh (.int b), .sh (.int (a % b : Nat))]), e]
      · rw [Nat.gcd_comm b, ← Nat.gcd_rec, Nat.gcd_comm]
      · simp [k_c__law_low_1]; omega
      · have : gMod (a : Int) (b : Int) = some ((a % b : Nat) : Int) := by
          rw [gMod_of (by omega), Int.fmod_eq_emod_of_nonneg _ (by omega)]
          rfl
        simp [k_b__law_low_2, this, lim]
theorem t_low {a b : Int} {W : Ro} {n : Nat} (hb : b ≠ 0) (h : b.natAbs < 2 ^ n) (hn : 0 < n) (hn2 : n ≤ 9000) : k_f__law_low [.int a, .int b] W = some (.val (enc (Rat.divInt a b)) .sh W) := by
  have hg := gcd_lt (a := a) hb h hn hn2
  have h0 := gcd_ne (a := a) hb
  have hg' : (-((Nat.gcd a.natAbs b.natAbs : Nat) : Int)).natAbs.log2 < 9000 := by rw [Int.natAbs_neg]; exact hg
  have h0' : -((Nat.gcd a.natAbs b.natAbs : Nat) : Int) ≠ 0 := by omega
  have := @low_ok a b _ hb rfl
  have q1 := @gDiv_of a _ h0 hg
  have q2 := @gDiv_of b _ h0 hg
  have q3 := @gDiv_of a _ h0' hg'
  have q4 := @gDiv_of b _ h0' hg'
  obtain ⟨m, e⟩ := @low_loop (.int a) (.int b) W b.natAbs a.natAbs
  have e := whileE_of e
  have ea : (if 0 - a > a then 0 - a else a) = (a.natAbs : Int) := by split <;> omega
  have eb : (if 0 - b > b then 0 - b else b) = (b.natAbs : Int) := by split <;> omega
  unfold k_f__law_low k_g__law_low runDef
  rw [ap_seq]
  have s1 : (cPar [2, 3] (cCons (cL pMax (cCons (cVar 0) (cCons (c2 pSub (cC (.int 0)) (cVar 0)) cNil))) (cCons (cL pMax (cCons (cVar 1) (cCons (c2 pSub (cC (.int 0)) (cVar 1)) cNil))) cNil))) (env0 4 [.int a, .int b]) W = some (.nx [.sh (.int a), .sh (.int b), .sh (.int a.natAbs), .sh (.int b.natAbs)] W) := by
    simp [env0, lim, -Int.zero_sub, ea, eb]
  rw [s1]
  dsimp only
  rw [ap_seq]
  show same? W (outD (match whileE lowC lowB _ W with | some (.nx ρ' W') => _ | o => o)) = _
  rw [e]
  dsimp only
  by_cases hl : b < 0
  · rw [if_pos hl] at this
    have hl2 : ¬ 0 < b := by omega
    simp [hl2, q3, q4, lim, enc, this]
  · rw [if_neg hl] at this
    have hl2 : 0 < b := by omega
    simp [hl2, q1, q2, lim, enc, this]
theorem t_lmul {a b : Rat} {W : Ro} {n m : Nat} (ha : Sz n a) (hb : Sz m b) (h : n + m ≤ 8000) : k_f__law_mul [enc a, enc b] W = some (.val (enc (a * b)) .sh W) := by
  have m1 := @mul_ii W a.num b.num (log_mul ha.1 hb.1 (by omega))
  have m2 := @mul_ii W a.den b.den (log_mul (by simpa using ha.2) (by simpa using hb.2) (by omega))
  have r := @t_low (a.num * b.num) (a.den * b.den) W (n + m + 1) (Int.ne_of_gt (Int.mul_pos (den_pos a) (den_pos b))) (by rw [Int.natAbs_mul]; exact Nat.lt_of_lt_of_le (mul_lt ha.2 hb.2) (Nat.pow_le_pow_right (by omega) (by omega))) (by omega) (by omega)
  rw [← mul_divInt] at r
  simp [k_f__law_mul, k_g__law_mul, runDef, env0, m1, m2, r]
theorem t_ladd {a b : Rat} {W : Ro} {n m : Nat} (ha : Sz n a) (hb : Sz m b) (h : n + m ≤ 8000) : k_f__law_add [enc a, enc b] W = some (.val (enc (a + b)) .sh W) := by
  have m1 := @mul_ii W a.num b.den (log_mul ha.1 (by simpa using hb.2) (by omega))
  have m3 := @mul_ii W b.num a.den (log_mul hb.1 (by simpa using ha.2) (by omega))
  have m2 := @mul_ii W a.den b.den (log_mul (by simpa using ha.2) (by simpa using hb.2) (by omega))
  have r := @t_low (a.num * b.den + b.num * a.den) (a.den * b.den) W (n + m + 1) (Int.ne_of_gt (Int.mul_pos (den_pos a) (den_pos b))) (by rw [Int.natAbs_mul]; exact Nat.lt_of_lt_of_le (mul_lt ha.2 hb.2) (Nat.pow_le_pow_right (by omega) (by omega))) (by omega) (by omega)
  rw [← add_divInt] at r
  simp [k_f__law_add, k_g__law_add, runDef, env0, m1, m2, m3, r]
end Wk

set_option Elab.async false
set_option linter.all false
set_option maxRecDepth 100000
set_option maxHeartbeats 4000000
namespace Wk
open PySem PySem.Spec
section
variable {f g : Sm} {ρ : Env'} {W : Ro} {d : D} {i : Nat}
@[simp] theorem ap_setI : cSetI i f g ρ W = match g ρ W with | none => none | some (.exc c W') => some (.exc c ρ W') | some (.val d k W') => if k = .bo then none else if held ρ i then (match f ρ W' with | none => none | some (.exc c W2) => some (.exc c ρ W2) | some (.val ix _ W2) => (setI i ix d ρ W2).map fun p => .nx p.1 p.2) else none := by
  unfold cSetI
  rw [ap_sbind, ap_fr]
  cases g ρ W with
  | none => rfl
  | some o => cases o with
    | exc c w => rfl
    | val d k w => cases k <;> rfl
theorem held_sh (h : ρ[i]? = some (.sh d)) : held ρ i = true := by unfold held; rw [h]
theorem held_ow (h : ρ[i]? = some (.ow d)) : held ρ i = true := by unfold held; rw [h]
theorem setI_row {l : List D} {j : Nat} (h : ρ[i]? = some (.sh .row)) (hj : j < l.length) : setI i (.int j) d ρ (some l) = some (ρ, some (l.set j d)) := by
  unfold setI
  rw [h]
  have : L2.ixN l.length (j : Int) = some j := by unfold L2.ixN; rw [if_pos (by omega), if_pos (by omega)]; rfl
  simp [this]
theorem setI_ow {l : List D} {j : Nat} (h : ρ[i]? = some (.ow (.lst l))) (hj : j < l.length) : setI i (.int j) d ρ W = some (ρ.set i (.ow (.lst (l.set j d))), W) := by
  unfold setI
  rw [h]
  have : L2.ixN l.length (j : Int) = some j := by unfold L2.ixN; rw [if_pos (by omega), if_pos (by omega)]; rfl
  simp [this]
end
@[simp] theorem row_held {r : Env'} : held (.sh .row :: r) 0 = true := rfl
@[simp] theorem row_set1 {r : Env'} {u w x y z : D} : setI 0 (.int 1) u (.sh .row :: r) (some [w, x, y, z]) = some (.sh .row :: r, some [w, u, y, z]) := rfl
@[simp] theorem row_set2 {r : Env'} {u w x y z : D} : setI 0 (.int 2) u (.sh .row :: r) (some [w, x, y, z]) = some (.sh .row :: r, some [w, x, u, z]) := rfl
@[simp] theorem row_set3 {r : Env'} {u w x y z : D} : setI 0 (.int 3) u (.sh .row :: r) (some [w, x, y, z]) = some (.sh .row :: r, some [w, x, y, u]) := rfl
/-! ### draws -/
def WF (W : Ro) : Prop := ∃ (ns : List Int) (a : Nat) (s t : Int), W = some [.scr ns, .int a, .int s, .int t] ∧ 0 ≤ s ∧ s < 2147483647 ∧ 0 ≤ t
theorem pow18 : gPow 10 18 = some 1000000000000000000 := by decide
theorem fmod_pos (a : Int) {b : Int} (hb : 0 < b) : 0 ≤ a.fmod b ∧ a.fmod b < b := ⟨Int.fmod_nonneg_of_pos _ hb, Int.fmod_lt_of_pos _ hb⟩
theorem t_draw {W : Ro} {m : Int} (h : WF W) (hm : 0 < m) (hm2 : m < 2 ^ 60) : ∃ W' k, k_f__law_taken [.row, .int m] W = some (.val (.int k) .sh W') ∧ WF W' ∧ 0 ≤ k ∧ k < m := by
  obtain ⟨ns, a, s, t, rfl, s0, s1, t0⟩ := h
  have hm' : m ≠ 0 := by omega
  have lm : m.natAbs.log2 < 9000 := by
    have := log2_of (n := 60) (a := m.natAbs) (by omega) (by omega)
    omega
  have d1 := fun x : Int => @gDiv_of x m hm' lm
  have d2 := fun x : Int => @gMod_of x m hm'
  have d3 := fun x : Int => @gMod_of x 2147483647 (by decide)
  have d4 := fun x : Int => @gDiv_of x 7 (by decide) (by decide)
  have sl : s.natAbs.log2 + (48271 : Int).natAbs.log2 < 1000000 := by
    have := log2_of (n := 31) (a := s.natAbs) (by omega) (by omega)
    have : (48271 : Int).natAbs.log2 = 15 := by decide
    omega
  have m1 := fun W => @mul_ii W s 48271 sl
  by_cases ht : 0 < t
  · refine ⟨some [.scr ns, .int a, .int s, .int (t.fdiv m)], t.fmod m, ?_, ⟨ns, a, s, _, rfl, s0, s1, Int.fdiv_nonneg t0 (by omega)⟩, (fmod_pos _ hm).1, (fmod_pos _ hm).2⟩
    simp [k_f__law_taken, k_g__law_taken, runDef, env0, ht, d1, d2]
  · have e1 : ((a : Int) + 1) = ((a + 1 : Nat) : Int) := rfl
    by_cases hl : ns.length < a + 1
    · refine ⟨some [.scr ns, .int (a + 1 : Nat), .int ((s * 48271 + 11).fmod 2147483647), .int t], (((s * 48271 + 11).fmod 2147483647).fdiv 7).fmod m, ?_, ⟨ns, _, _, _, rfl, (fmod_pos _ (by decide)).1, (fmod_pos _ (by decide)).2, t0⟩, (fmod_pos _ hm).1, (fmod_pos _ hm).2⟩
      have hl' : (ns.length : Int) < (a : Int) + 1 := by omega
      simp [k_f__law_taken, k_g__law_taken, runDef, env0, ht, hl', d2, d3, d4, m1]
    · have hl' : ¬ ((ns.length : Int) < (a : Int) + 1) := by omega
      have ha : a < ns.length := by omega
      have at_ : L2.atI ns ((a : Int) + 1 - 1) = some ns[a] := by
        rw [show (a : Int) + 1 - 1 = (a : Int) by omega, at_nat, List.getElem?_eq_getElem ha]
      by_cases hc : 1000000000000000000 ≤ ns[a]
      · refine ⟨some [.scr ns, .int (a + 1 : Nat), .int ((s * 48271 + ns[a] + 11).fmod 2147483647), .int (ns[a].fdiv m)], ns[a].fmod m, ?_, ⟨ns, _, _, _, rfl, (fmod_pos _ (by decide)).1, (fmod_pos _ (by decide)).2, Int.fdiv_nonneg (by omega) (by omega)⟩, (fmod_pos _ hm).1, (fmod_pos _ hm).2⟩
        simp [k_f__law_taken, k_g__law_taken, runDef, env0, ht, hl', d1, d2, d3, d4, m1, -Int.add_sub_cancel, at_, pow18, hc]
      · refine ⟨some [.scr ns, .int (a + 1 : Nat), .int ((s * 48271 + ns[a] + 11).fmod 2147483647), .int t], ns[a].fmod m, ?_, ⟨ns, _, _, _, rfl, (fmod_pos _ (by decide)).1, (fmod_pos _ (by decide)).2, t0⟩, (fmod_pos _ hm).1, (fmod_pos _ hm).2⟩
        simp [k_f__law_taken, k_g__law_taken, runDef, env0, ht, hl', d1, d2, d3, d4, m1, -Int.add_sub_cancel, at_, pow18, hc]
end Wk

set_option Elab.async false
set_option linter.all false
set_option maxRecDepth 100000
set_option maxHeartbeats 4000000
namespace Wk
open PySem Km
def encT (r : Row) : D := .tup (r.map enc)
def encL (r : Row) : D := .lst (r.map enc)
theorem blsOf_true {α : Type} : ∀ {l : List α}, blsOf (l.map fun _ => D.bl true) = some (l.map fun _ => true)
  | [] => rfl
  | x :: l => by simp [blsOf, blsOf_true]
theorem all_true {α : Type} {l : List α} : pAll [.lst (l.map fun _ => D.bl true)] = some (.bl true, .sh) := by
  show (blsOf (l.map fun _ => D.bl true)).map _ = _
  rw [blsOf_true]
  simp
theorem t_is_ratio {r : Rat} {W : Ro} : k_f_is_ratio [enc r] W = some (.val (.bl true) .sh W) := by
  have hd := den_pos r
  have hr : Nat.gcd r.num.natAbs r.den = 1 := r.reduced
  simp [k_f_is_ratio, k_g_is_ratio, k_b_is_ratio_1, runDef, env0, enc, pIsi, tyN, isiB, forN, hr, r.den_pos]
theorem t_ratios {f g : Sm} {ρ : Env'} {W : Ro} {l : List Rat} {d : D} {k : Kd} (hg : g = cCall k_f_is_ratio (cCons (cFr (cVar 2)) cNil)) (hl : l.length ≤ 1000000) (h : cFr f ρ W = some (.val d k W)) (hs : seqOf d = some (l.map enc)) (h2 : 2 < ρ.length) : cL pAll (cCons (cComp [2] (.nm 2) (cSeqI f) (cC (.bl true)) g) cNil) ρ W = some (.val (.bl true) .sh W) := by
  have e := @lcN_map Rat (.nm 2) (cCall k_f_is_ratio (cCons (cFr (cVar 2)) cNil)) (ρ.set 2 .no) W enc (fun _ => .bl true) l fun x _ => ⟨_, .sh, tg_nm, by simp [h2, t_is_ratio]⟩
  subst hg
  simp [h, hs, hl, lim, e, all_true, -ap_fr]
theorem t_is_table {A : Mat} {w : Nat} {W : Ro} (s : Shp A w) (h1 : 1 ≤ A.length) (h2 : A.length ≤ 40) (h3 : 1 ≤ w) (h4 : w ≤ 40) : k_f_is_table [.tup (A.map encT)] W = some (.val (.bl true) .sh W) := by
  obtain ⟨r0, e0⟩ : ∃ r0, A[0]? = some r0 := ⟨A[0], List.getElem?_eq_getElem (by omega)⟩
  have l0 : r0.length = w := s r0 (List.mem_of_getElem? e0)
  obtain ⟨ρ', W', loop, e1, _⟩ := @forN_inv Row (.nm 1) k_b_is_table_2 encT (fun l ρ W' => W' = W ∧ (∃ x y, ρ = [.sh (.tup (A.map encT)), x, y]) ∧ ∀ r ∈ l, r.length = w) A [.sh (.tup (A.map encT)), .no, .no] W ⟨rfl, ⟨.no, .no, rfl⟩, s⟩
    (by
      rintro r l ρ W' ⟨rfl, ⟨x, y, rfl⟩, hl⟩
      have hr := hl r (by simp)
      refine ⟨[.sh (.tup (A.map encT)), .sh (encT r), y], _, _, tg_nm, ?_, rfl, ⟨.sh (encT r), y, rfl⟩, fun q hq => hl q (by simp [hq])⟩
      have t1 := @t_ratios (cVar 1) k_e_is_table_1 [.sh (.tup (A.map encT)), .sh (encT r), y] W' r (encT r) .sh rfl (by omega) (by simp) (by simp [encT]) (by simp)
      have q1 : cChain pLe pLe (cC (.int 1)) (cL pLen (cCons (cVar 1) cNil)) (cC (.int 40)) [.sh (.tup (A.map encT)), .sh (encT r), y] W' = some (.val (.bl true) .sh W') := by
        have h4' : (w : Int) ≤ 40 := by omega
        have h3' : (1 : Int) ≤ w := by omega
        simp [cChain, encT, hr, h3', h4']
      have q2 : cL pIsi (cCons (cVar 1) (cCons (cC (.ty "tuple")) cNil)) [.sh (.tup (A.map encT)), .sh (encT r), y] W' = some (.val (.bl true) .sh W') := by
        simp [pIsi, encT, tyN, isiB]
      have q3 : c2 pNes (cL pLen (cCons (cVar 1) cNil)) (cL pLen (cCons (c2 pIdx (cVar 0) (cC (.int 0))) cNil)) [.sh (.tup (A.map encT)), .sh (encT r), y] W' = some (.val (.bl false) .sh W') := by
        simp [e0, encT, hr, l0]
      unfold k_b_is_table_2
      rw [ap_seq, ap_ifs, ap_or, ap_not, q2]
      simp only [Bool.not_true]
      rw [ap_or, ap_not, q1]
      simp only [Bool.not_true]
      rw [q3]
      simp only [Bool.false_eq_true, if_false, ap_nx]
      rw [ap_seq, ap_ifs, ap_not, t1]
      simp)
  obtain ⟨rfl, _⟩ := e1
  have h1' : (1 : Int) ≤ A.length := by omega
  have h2' : (A.length : Int) ≤ 40 := by omega
  simp [k_f_is_table, k_g_is_table, runDef, env0, pIsi, tyN, isiB, cChain, h1', h2', loop]
theorem t_need {A : Mat} {w : Nat} {W : Ro} (s : Shp A w) (h1 : 1 ≤ A.length) (h2 : A.length ≤ 40) (h3 : 1 ≤ w) (h4 : w ≤ 40) : k_f_need_table [.tup (A.map encT)] W = some (.val .non .sh W) := by
  simp [k_f_need_table, k_g_need_table, runDef, env0, t_is_table s h1 h2 h3 h4]
/-! ### sums of products -/
def SzR (n : Nat) (r : Row) : Prop := ∀ x ∈ r, Sz n x
def dotL : Row → Row → Rat
  | x :: r, y :: s => x * y + dotL r s
  | _, _ => 0
def sumL (r : Row) : Rat := r.foldl (· + ·) 0
theorem sz0 {n : Nat} (hn : 0 < n) : Sz n 0 := by
  refine ⟨?_, ?_⟩
  · show (0 : Int).natAbs < 2 ^ n
    exact Nat.pos_of_ne_zero (by simp)
  · show 1 < 2 ^ n
    exact Nat.one_lt_two_pow (by omega)
theorem enc0 : D.tup [.int 0, .int 1] = enc 0 := rfl
theorem enc1 : D.tup [.int 1, .int 1] = enc 1 := rfl
theorem t_total_loop {W : Ro} {n : Nat} {x : D} : ∀ (l : Row) (a : Rat) (y : Sl) (b : Nat), SzR n l → Sz b a → b + l.length * (n + 1) ≤ 7000 → ∃ z, forN (.nm 2) k_b__law_total_1 (l.map enc) [.sh x, .sh (enc a), y] W = some (.nx [.sh x, .sh (enc (l.foldl (· + ·) a)), z] W)
  | [], a, y, b, _, _, _ => ⟨y, rfl⟩
  | r :: l, a, y, b, h, hb, hs => by
    simp only [List.length_cons, Nat.add_mul, Nat.one_mul] at hs
    have hr := h r (by simp)
    obtain ⟨z, e⟩ := t_total_loop (x := x) (W := W) (n := n) l (a + r) (.sh (enc r)) (b + n + 1) (fun q hq => h q (by simp [hq])) (Sz.add hb hr) (by omega)
    refine ⟨z, ?_⟩
    rw [List.map_cons, forN]
    dsimp only
    rw [tg_nm]
    dsimp only
    have := @t_ladd a r W b n hb hr (by omega)
    have step : k_b__law_total_1 [.sh x, .sh (enc a), .sh (enc r)] W = some (.nx [.sh x, .sh (enc (a + r)), .sh (enc r)] W) := by
      simp [k_b__law_total_1, this]
    rw [show ([.sh x, .sh (enc a), y] : Env').set 2 (.sh (enc r)) = [.sh x, .sh (enc a), .sh (enc r)] from rfl, step]
    exact e
theorem t_total {W : Ro} {n : Nat} {l : Row} (h : SzR n l) (hs : l.length * (n + 1) ≤ 6000) : k_f__law_total [.lst (l.map enc)] W = some (.val (enc (sumL l)) .sh W) := by
  obtain ⟨z, e⟩ := @t_total_loop W n (.lst (l.map enc)) l 0 .no 1 h (sz0 (by omega)) (by omega)
  simp [k_f__law_total, k_g__law_total, runDef, env0, lim, enc0, e, sumL]
end Wk

set_option Elab.async false
set_option linter.all false
set_option maxRecDepth 100000
set_option maxHeartbeats 4000000
namespace Wk
open PySem Km
theorem rat_num {y : Rat} : (y.num = 0) = (y = 0) := propext Rat.num_eq_zero
theorem t_less {x y : Row} {n : Rat} {b : Nat} {W : Ro} (hx : SzR b x) (hy : SzR b y) (hn : Sz b n) (hb : 3 * b ≤ 8000) (hl : x.length ≤ 1000) : k_f_less_times [encL x, encL y, enc n] W = some (.val (encL (axpy n x y)) .fr W) := by
  have e := @lcN_map (Rat × Rat) (.tp [(.nm 3), (.nm 4)]) k_e_less_times_1 [.sh (encL x), .sh (encL y), .sh (enc n), .no, .no] W (fun p => .tup [enc p.1, enc p.2]) (fun p => enc (p.1 - p.2 * n)) (List.zip x y) fun p hp => by
    have h1 := hx _ (List.of_mem_zip hp).1
    have h2 := hy _ (List.of_mem_zip hp).2
    refine ⟨[.sh (encL x), .sh (encL y), .sh (enc n), .sh (enc p.1), .sh (enc p.2)], .sh, by simp, ?_⟩
    by_cases h0 : p.2 = 0
    · have : p.1 - p.2 * n = p.1 := by rw [h0]; grind
      rw [this]
      simp [k_e_less_times_1, h0]
    · have t1 := @t_times p.2 n W b b h2 hn (by omega)
      have t2 := @t_taken p.1 (p.2 * n) W b (b + b) h1 (h2.mul hn) (by omega)
      simp [k_e_less_times_1, rat_num, h0, t1, t2]
  have hz : (List.zip x y).length ≤ 1000000 := by simp; omega
  have hm : (List.zip x y).map (fun p => enc (p.1 - p.2 * n)) = (axpy n x y).map enc := by
    unfold axpy
    rw [List.zip, List.map_zipWith, List.map_zipWith]
  rw [hm] at e
  simp [k_f_less_times, k_g_less_times, runDef, env0, seqsOf, encL]
  rw [zip_two]
  simp only [List.length_map]
  rw [if_pos (by unfold lim; exact hz)]
  unfold encL at e
  simp [e, encL]
theorem t_dot {r p : Row} {n m : Nat} {W : Ro} {ρ : Env'} {d : D} (h4 : ρ[4]? = some (.sh (encT r))) (h1 : ρ[1]? = some (.sh d)) (hd : seqOf d = some (p.map enc)) (hl : ρ.length = 5) (hr : SzR n r) (hp : SzR m p) (hs : r.length * (n + m + 1) ≤ 6000) (hnm : n + m ≤ 5000) (hc : r.length ≤ 1000) :
    k_e__law_times_2 ρ W = some (.val (enc (sumL (List.zipWith (· * ·) r p))) .sh W) := by
  have hz : (List.zip r p).length ≤ 1000000 := by simp; omega
  have e := @lcN_map (Rat × Rat) (.tp [(.nm 2), (.nm 3)]) k_e__law_times_1 ((ρ.set 3 .no).set 2 .no) W (fun p => .tup [enc p.1, enc p.2]) (fun p => enc (p.1 * p.2)) (List.zip r p) fun q hq => by
    have h1 := hr _ (List.of_mem_zip hq).1
    have h2 := hp _ (List.of_mem_zip hq).2
    refine ⟨_, .sh, by simp; rfl, ?_⟩
    have t1 := @t_lmul q.1 q.2 W n m h1 h2 (by omega)
    simp [k_e__law_times_1, hl, t1]
  have hm : (List.zip r p).map (fun p => enc (p.1 * p.2)) = (List.zipWith (· * ·) r p).map enc := by
    rw [List.zip, List.map_zipWith, List.map_zipWith]
  rw [hm] at e
  have tt := @t_total W (n + m) (List.zipWith (· * ·) r p) (fun x hx => by
    rw [← List.map_uncurry_zip_eq_zipWith] at hx
    obtain ⟨q, hq, rfl⟩ := List.mem_map.mp hx
    exact (hr _ (List.of_mem_zip hq).1).mul (hp _ (List.of_mem_zip hq).2)) (by
    refine Nat.le_trans (Nat.mul_le_mul_right _ ?_) hs
    simp; omega)
  unfold k_e__law_times_2
  simp [h4, h1, seqsOf, encT, hd]
  rw [zip_two]
  simp only [List.length_map]
  rw [if_pos (by unfold lim; exact hz)]
  simp [e, tt, -List.map_zipWith]
theorem t_ltimes {A : Mat} {p : Row} {w n m : Nat} {W : Ro} {D1 D2 : D} (hA : seqOf D1 = some (A.map encT)) (hd : seqOf D2 = some (p.map enc)) (s : Shp A w) (hr : ∀ r ∈ A, SzR n r) (hp : SzR m p) (hs : w * (n + m + 1) ≤ 6000) (hnm : n + m ≤ 5000) (hc : w ≤ 1000) (hl : A.length ≤ 1000) :
    k_f__law_times [D1, D2] W = some (.val (.lst ((A.map fun r => sumL (List.zipWith (· * ·) r p)).map enc)) .fr W) := by
  have e := @lcN_map Row (.nm 4) k_e__law_times_2 [.sh D1, .sh D2, .no, .no, .no] W encT (fun r => enc (sumL (List.zipWith (· * ·) r p))) A fun r hr2 => by
    have := @t_dot r p n m W [.sh D1, .sh D2, .no, .no, .sh (encT r)] D2 rfl rfl hd rfl (hr r hr2) hp (by rw [s r hr2]; exact hs) hnm (by rw [s r hr2]; exact hc)
    exact ⟨_, .sh, tg_nm, by simp [this]⟩
  have hl' : A.length ≤ 1000000 := by omega
  simp [k_f__law_times, k_g__law_times, runDef, env0, hA, lim, hl', e]
def unitR (m k : Nat) : Row := (List.range m).map fun j => if k = j then 1 else 0
def exts (A : Mat) (b : Row) : Mat := (List.range A.length).map fun k => A.getD k [] ++ (b.getD k 0 :: unitR A.length k)
theorem unit_row {m k : Nat} {W : Ro} {a b c d e : Sl} (hm : m ≤ 1000) : cComp [6] (.nm 6) (cRng1 (cCons (cVar 2) cNil)) (cC (.bl true)) k_e_with_units_1 [a, b, .sh (.int m), c, .sh (.int k), d, e] W = some (.val (.lst ((unitR m k).map enc)) .fr W) := by
  have e := @lcN_map Nat (.nm 6) k_e_with_units_1 [a, b, .sh (.int m), c, .sh (.int k), d, .no] W (fun (i : Nat) => D.int i) (fun j => enc (if k = j then 1 else 0)) (List.range m) fun j hj => by
    refine ⟨_, .sh, tg_nm, ?_⟩
    by_cases h : k = j
    · subst h
      simp [k_e_with_units_1, enc1]
    · have h' : ¬ (k : Int) = j := by omega
      simp [k_e_with_units_1, h, h', enc0]
  refine (comp_ok (rng_ok (m := m) (k := .sh) (W' := W) (by simp) hm) (by simpa using hm) e).trans ?_
  unfold unitR
  rw [List.map_map]
  rfl
theorem t_units {A : Mat} {b : Row} {W : Ro} {D1 D2 : D} (hA : D1 = .tup (A.map encT)) (hb : seqOf D2 = some (b.map enc)) (hl : A.length ≤ 100) (hbl : b.length = A.length) (hr : ∀ r ∈ A, r.length ≤ 100) : k_f_with_units [D1, D2] W = some (.val (.lst ((exts A b).map encL)) .fr W) := by
  have idx2 : ∀ i : Nat, pIdx W D2 (.int i) = ((b.map enc)[i]?).map fun d => (d, .sh) := by
    intro i
    rw [← at_nat]
    cases D2 <;> first | (cases hb; rfl) | cases hb
  have idx1 : ∀ i : Nat, pIdx W D1 (.int i) = ((A.map encT)[i]?).map fun d => (d, .sh) := by
    intro i
    rw [← at_nat]
    subst hA; rfl
  obtain ⟨ρ', W', e, eW, z1, z2, z3, er⟩ := @forN_range (.nm 4) k_b_with_units_2 A.length (fun j ρ W' => W' = W ∧ ∃ x y z, ρ = [.sh D1, .sh D2, .sh (.int A.length), .ow (.lst (((List.range j).map fun k => A.getD k [] ++ (b.getD k 0 :: unitR A.length k)).map encL)), x, y, z])
    [.sh D1, .sh D2, .sh (.int A.length), .ow (.lst []), .no, .no, .no] W ⟨rfl, .no, .no, .no, rfl⟩ (by
      rintro k hk ρ W' ⟨rfl, x, y, z, rfl⟩
      refine ⟨[.sh D1, .sh D2, .sh (.int A.length), .ow (.lst (((List.range k).map fun k => A.getD k [] ++ (b.getD k 0 :: unitR A.length k)).map encL)), .sh (.int k), y, z], _, _, tg_nm, ?_, rfl, .sh (.int k), .sh (.lst ((unitR A.length k).map enc)), z, rfl⟩
      have hk2 : (A.getD k []).length ≤ 100 := hr _ (getD_mem hk)
      have i1 := idx1 k
      have i2 := idx2 k
      rw [map_get [] hk] at i1
      rw [map_get 0 (by omega)] at i2
      have fits : ((A.getD k []).map enc ++ enc (b.getD k 0) :: (unitR A.length k).map enc).length ≤ lim := by
        rw [List.length_append, List.length_cons, List.length_map, List.length_map, unitR, List.length_map, List.length_range]
        unfold lim; omega
      have el : cFr (cLst (cStar (c2 pIdx (cVar 0) (cVar 4)) (cCons (cFr (c2 pIdx (cVar 1) (cVar 4))) (cStar (cVar 5) cNil)))) [.sh D1, .sh D2, .sh (.int A.length), .ow (.lst (((List.range k).map fun k => A.getD k [] ++ (b.getD k 0 :: unitR A.length k)).map encL)), .sh (.int k), .sh (.lst ((unitR A.length k).map enc)), z] W' = some (.val (encL (A.getD k [] ++ (b.getD k 0 :: unitR A.length k))) .sh W') := by
        have inner : (cStar (c2 pIdx (cVar 0) (cVar 4)) (cCons (cFr (c2 pIdx (cVar 1) (cVar 4))) (cStar (cVar 5) cNil))) [.sh D1, .sh D2, .sh (.int A.length), .ow (.lst (((List.range k).map fun k => A.getD k [] ++ (b.getD k 0 :: unitR A.length k)).map encL)), .sh (.int k), .sh (.lst ((unitR A.length k).map enc)), z] W' =
            some (.vals (((A.getD k []).map enc).map (fun d => (d, .sh)) ++ ((enc (b.getD k 0), .sh) :: (((unitR A.length k).map enc).map (fun d => (d, .sh)) ++ []))) W') := by
          simp [i1, i2, encT, -List.getD_eq_getElem?_getD]
        rw [ap_fr, ap_lst, inner]
        dsimp only
        rw [shs_pre, shs_cons, shs_pre, shs_nil]
        simp only [Option.map_some, List.append_nil]
        rw [if_pos fits]
        simp [encL]
      unfold k_b_with_units_2
      rw [ap_seq, ap_asg, unit_row (by omega)]
      simp only [put_fr, Option.map_some, List.set_cons_succ, List.set_cons_zero]
      rw [ap_seq, ap_shr, shr_cons]
      simp only [List.getElem?_cons_succ, List.getElem?_cons_zero, List.set_cons_succ, List.set_cons_zero, shr_nil]
      rw [app_ok (k := .sh) (W' := W') rfl el (by rw [List.length_map, List.length_map, List.length_range]; omega)]
      simp [List.range_succ])
  obtain rfl := eW
  subst er
  subst hA
  unfold k_f_with_units k_g_with_units runDef
  rw [seq_nx (ρ' := [.sh (.tup (A.map encT)), .sh D2, .sh (.int A.length), .ow (.lst []), .no, .no, .no]) (W' := W') (by simp [env0, lim]), seq_nx (for_nx (rng_ok (m := A.length) (k := .sh) (W' := W') (by simp) (by omega)) e)]
  simp [exts]
end Wk

set_option Elab.async false
set_option linter.all false
set_option maxRecDepth 100000
set_option maxHeartbeats 4000000
namespace Wk
open PySem Km
def rowsD (M : Mat) : D := .lst (M.map encL)
def natsD (l : List Nat) : D := .lst (l.map fun (i : Nat) => D.int i)
theorem idx_rows {M : Mat} {k : Nat} {W : Ro} (h : k < M.length) : pIdx W (rowsD M) (.int k) = some (encL (M.getD k []), .sh) := by
  unfold rowsD
  rw [idx_lst, at_nat, map_get [] h]
  rfl
theorem idx_row2 {r : Row} {c : Nat} {W : Ro} (h : c < r.length) : pIdx W (encL r) (.int c) = some (enc (r.getD c 0), .sh) := by
  unfold encL
  rw [idx_lst, at_nat, map_get 0 h]
  rfl
theorem idx_nats0 {p : Nat} {ps : List Nat} {W : Ro} : pIdx W (natsD (p :: ps)) (.int 0) = some (.int p, .sh) := by
  unfold natsD
  rw [idx_lst, at_0]
  rfl
theorem len_rows {M : Mat} : pLen [rowsD M] = some (.int M.length, .sh) := by unfold rowsD; simp
theorem rows_set {M : Mat} {r : Row} {k : Nat} : (M.map encL).set k (encL r) = (M.set k r).map encL := by rw [List.map_set]
theorem rows_setI {M : Mat} {W : Ro} {rest : Env'} {p : Nat} {r : Row} (hp : p < M.length) : setI 0 (.int p) (encL r) (.ow (rowsD M) :: rest) W = some (.ow (rowsD (M.set p r)) :: rest, W) := by
  have := @setI_ow (.ow (.lst (M.map encL)) :: rest) W (encL r) 0 (M.map encL) p rfl (by simpa using hp)
  rw [rows_set] at this
  exact this
theorem rng2_ok {L : SmL} {ρ : Env'} {W W' : Ro} {a n : Nat} {k k' : Kd} (h : L ρ W = some (.vals [(.int a, k), (.int n, k')] W')) (hn : n ≤ 1000) (ha : a ≤ n) : cRng2 L ρ W = some (.its ((List.range' a (n - a)).map fun (i : Nat) => D.int i) W') := by
  have h1 : small62 (a : Int) = true := small_nat (by omega)
  have h2 : small62 (n : Int) = true := small_nat (by omega)
  rw [ap_rng2, h]
  simp only [h1, h2, Bool.and_self, if_true]
  rw [show (((n : Int) - (a : Int))).toNat = n - a by omega, range_from]
section
variable {M : Mat} {W : Ro} {w c a : Nat} {x1 x2 x4 x6 x7 x8 x9 : Sl}
/-- clearing -/
theorem st_clear1 {p b : Nat} (s : Shp M w) (hz : ∀ r ∈ M, SzR b r) (hb : 3 * b ≤ 8000) (hw : w ≤ 1000) (hc : c < w) (ha : a < M.length) (hp : p < M.length) :
    k_b_stepped_1 [.ow (rowsD M), x1, x2, .sh (.int a), x4, .sh (.int c), x6, .sh (.int p), x8, x9] W = some (.nx [.ow (rowsD (clr1 M a c p)), x1, x2, .sh (.int a), x4, .sh (.int c), x6, .sh (.int p), x8, x9] W) := by
  have lp := s.get hp
  have la := s.get ha
  have i1 := @idx_rows M p W hp
  have i2 := @idx_rows M a W ha
  have i3 := @idx_row2 (M.getD p []) c W (by rw [lp]; exact hc)
  have tl := @t_less (M.getD p []) (M.getD a []) (ent M p c) b W (hz _ (getD_mem hp)) (hz _ (getD_mem ha)) (hz _ (getD_mem hp) _ (getD_mem' (by rw [lp]; exact hc))) hb (by rw [lp]; omega)
  have hE : (M.getD p []).getD c 0 = ent M p c := rfl
  rw [hE] at i3
  unfold k_b_stepped_1 clr1
  by_cases h1 : p = a
  · have h1' : ¬ (p ≠ a ∧ ent M p c ≠ 0) := fun e => e.1 h1
    rw [if_neg h1']
    subst h1
    simp
  · have hi : ¬ ((p : Int) = (a : Int)) := by omega
    by_cases h2 : ent M p c = 0
    · have h1' : ¬ (p ≠ a ∧ ent M p c ≠ 0) := fun e => e.2 h2
      rw [if_neg h1']
      simp [hi, i1, i3, h2, -List.getD_eq_getElem?_getD]
    · rw [if_pos ⟨h1, h2⟩]
      have hs := @rows_setI M W [x1, x2, .sh (.int a), x4, .sh (.int c), x6, .sh (.int p), x8, x9] p (axpy (ent M p c) (M.getD p []) (M.getD a [])) hp
      simp [hi, i1, i2, i3, rat_num, h2, tl, held, hs, -List.getD_eq_getElem?_getD]
theorem st_clear {b : Nat} (hb : 3 * b ≤ 8000) (hw : w ≤ 1000) (hc : c < w) : ∀ (ps : List Nat) (M : Mat) (x7 : Sl), a < M.length → (∀ p ∈ ps, p < M.length) → (∀ k, k ≤ ps.length → Shp (clr a c (ps.take k) M) w ∧ ∀ r ∈ clr a c (ps.take k) M, SzR b r) →
    ∃ x7', forN (.nm 7) k_b_stepped_1 (ps.map fun (i : Nat) => D.int i) [.ow (rowsD M), x1, x2, .sh (.int a), x4, .sh (.int c), x6, x7, x8, x9] W = some (.nx [.ow (rowsD (clr a c ps M)), x1, x2, .sh (.int a), x4, .sh (.int c), x6, x7', x8, x9] W)
  | [], M, x7, _, _, _ => ⟨x7, rfl⟩
  | p :: ps, M, x7, ha, hp, h => by
    obtain ⟨s0, z0⟩ := h 0 (Nat.zero_le _)
    have e1 := @st_clear1 M W w c a x1 x2 x4 x6 x8 x9 p b s0 z0 hb hw hc ha (hp p (by simp))
    obtain ⟨x7', e2⟩ := st_clear hb hw hc ps (clr1 M a c p) (.sh (.int p)) (by rw [clr1_len]; exact ha) (fun q hq => by rw [clr1_len]; exact hp q (by simp [hq])) fun k hk => h (k + 1) (by simp; omega)
    refine ⟨x7', ?_⟩
    rw [List.map_cons, forN]
    dsimp only
    rw [tg_nm]
    simp only [List.set_cons_succ, List.set_cons_zero]
    rw [e1]
    exact e2
end
end Wk

set_option Elab.async false
set_option linter.all false
set_option maxRecDepth 100000
set_option maxHeartbeats 4000000
namespace Wk
open PySem Km
section
variable {M : Mat} {W : Ro} {w c a : Nat} {x1 x2 x4 x6 x7 x8 x9 : Sl}
theorem st_places (s : Shp M w) (hc : c < w) (ha : a ≤ M.length) (hl : M.length ≤ 100) :
    cAsg 6 (cComp [7] (.nm 7) (cRng2 (cCons (cVar 3) (cCons (cL pLen (cCons (cVar 0) cNil)) cNil))) k_c_stepped_3 k_e_stepped_4) [.ow (rowsD M), x1, x2, .sh (.int a), x4, .sh (.int c), x6, x7, x8, x9] W = some (.nx [.ow (rowsD M), x1, x2, .sh (.int a), x4, .sh (.int c), .ow (natsD (places M a c)), x7, x8, x9] W) := by
  have e := @lcN_filter Nat (.nm 7) k_e_stepped_4 k_c_stepped_3 [.ow (rowsD M), x1, x2, .sh (.int a), x4, .sh (.int c), x6, .no, x8, x9] W (fun (i : Nat) => D.int i) (fun (i : Nat) => D.int i) (fun p => decide (ent M p c ≠ 0)) (List.range' a (M.length - a)) fun p hp => by
    have hp2 : p < M.length := by have := List.mem_range'_1.mp hp; omega
    have i1 := @idx_rows M p W hp2
    have i3 := @idx_row2 (M.getD p []) c W (by rw [s.get hp2]; exact hc)
    rw [show (M.getD p []).getD c 0 = ent M p c from rfl] at i3
    refine ⟨[.ow (rowsD M), x1, x2, .sh (.int a), x4, .sh (.int c), x6, .sh (.int p), x8, x9], .sh, .sh, tg_nm, ?_, ?_⟩
    · simp [k_c_stepped_3, i1, i3, rat_num, -List.getD_eq_getElem?_getD]
    · simp [k_e_stepped_4]
  have q := @comp_ok [7] (.nm 7) (cRng2 (cCons (cVar 3) (cCons (cL pLen (cCons (cVar 0) cNil)) cNil))) k_c_stepped_3 k_e_stepped_4 [.ow (rowsD M), x1, x2, .sh (.int a), x4, .sh (.int c), x6, x7, x8, x9] W W W _ _ (rng2_ok (a := a) (n := M.length) (k := .sh) (k' := .sh) (by simp [len_rows]) (by omega) ha) (by simp; omega) e
  rw [ap_asg, q]
  rfl
theorem ap_store {ts : List Tp} {L : SmL} {ρ : Env'} {W : Ro} : cStore ts L ρ W = match L ρ W with | none => none | some (.exc c W') => some (.exc c ρ W') | some (.vals l W') => match shs l with | some ds => if ds.length ≤ lim then (storeAll ts ds ρ W').map fun p => .nx p.1 p.2 else none | none => none := rfl
theorem st_swap {p : Nat} {ps : List Nat} (ha : a < M.length) (hp : p < M.length) :
    cStore [.si 0 (cVar 3), .si 0 (c2 pIdx (cVar 6) (cC (.int 0)))] (cCons (c2 pIdx (cVar 0) (c2 pIdx (cVar 6) (cC (.int 0)))) (cCons (c2 pIdx (cVar 0) (cVar 3)) cNil)) [.ow (rowsD M), x1, x2, .sh (.int a), x4, .sh (.int c), .ow (natsD (p :: ps)), x7, x8, x9] W = some (.nx [.ow (rowsD (swp M a p)), x1, x2, .sh (.int a), x4, .sh (.int c), .ow (natsD (p :: ps)), x7, x8, x9] W) := by
  have i1 := @idx_rows M p W hp
  have i2 := @idx_rows M a W ha
  have i3 := @idx_nats0 p ps W
  have s1 := @rows_setI M W [x1, x2, .sh (.int a), x4, .sh (.int c), .ow (natsD (p :: ps)), x7, x8, x9] a (M.getD p []) ha
  have s2 := @rows_setI (M.set a (M.getD p [])) W [x1, x2, .sh (.int a), x4, .sh (.int c), .ow (natsD (p :: ps)), x7, x8, x9] p (M.getD a []) (by simpa using hp)
  rw [ap_store]
  simp [i1, i2, i3, lim, storeAll, held, s1, s2, swp, -List.getD_eq_getElem?_getD]
theorem st_scale {b : Nat} {f : Rat} (s : Shp M w) (hz : ∀ r ∈ M, SzR b r) (hf : Sz b f) (hf0 : f ≠ 0) (hb : 2 * b ≤ 8000) (hw : w ≤ 1000) (ha : a < M.length) :
    cSetI 0 (cVar 3) (cComp [9] (.nm 9) (cSeqI (c2 pIdx (cVar 0) (cVar 3))) (cC (.bl true)) k_e_stepped_2) [.ow (rowsD M), x1, x2, .sh (.int a), x4, .sh (.int c), x6, x7, .sh (enc f), x9] W = some (.nx [.ow (rowsD (M.set a (divs f (M.getD a [])))), x1, x2, .sh (.int a), x4, .sh (.int c), x6, x7, .sh (enc f), x9] W) := by
  have la := s.get ha
  have i2 := @idx_rows M a W ha
  have e := @lcN_map Rat (.nm 9) k_e_stepped_2 [.ow (rowsD M), x1, x2, .sh (.int a), x4, .sh (.int c), x6, x7, .sh (enc f), .no] W enc (fun x => enc (x / f)) (M.getD a []) fun x hx => by
    have t := @t_over x f W b b (hz _ (getD_mem ha) x hx) hf hf0 (by omega)
    exact ⟨[.ow (rowsD M), x1, x2, .sh (.int a), x4, .sh (.int c), x6, x7, .sh (enc f), .sh (enc x)], .sh, tg_nm, by simp [k_e_stepped_2, t]⟩
  have hm : (M.getD a []).map (fun x => enc (x / f)) = (divs f (M.getD a [])).map enc := by unfold divs; rw [List.map_map]; rfl
  rw [hm] at e
  have it : cSeqI (c2 pIdx (cVar 0) (cVar 3)) [.ow (rowsD M), x1, x2, .sh (.int a), x4, .sh (.int c), x6, x7, .sh (enc f), x9] W = some (.its ((M.getD a []).map enc) W) := by
    simp [i2, encL, -List.getD_eq_getElem?_getD]
  have q := @comp_ok [9] (.nm 9) _ (cC (.bl true)) k_e_stepped_2 [.ow (rowsD M), x1, x2, .sh (.int a), x4, .sh (.int c), x6, x7, .sh (enc f), x9] W W W _ _ it (by rw [List.length_map, la]; exact hw) e
  have s1 := @rows_setI M W [x1, x2, .sh (.int a), x4, .sh (.int c), x6, x7, .sh (enc f), x9] a (divs f (M.getD a [])) ha
  rw [ap_setI, q]
  unfold encL at s1
  simp [held, s1, -List.getD_eq_getElem?_getD]
theorem ap_aug {i : Nat} {op : Operator} {f : Sm} {ρ : Env'} {W W' : Ro} {a b c : Int} {k : Kd} (h : ρ[i]? = some (.sh (.int a))) (hf : f ρ W = some (.val (.int b) k W')) (hc : augI op a b = some c) : cAug i op f ρ W = some (.nx (ρ.set i (.sh (.int c))) W') := by
  unfold cAug
  rw [h]
  dsimp only
  rw [ap_sbind, hf]
  dsimp only
  rw [hc]
  rfl
end
/-- a column -/
theorem st_col {M : Mat} {W : Ro} {w c b : Nat} {cs : List Nat} {x1 x4 x6 x7 x8 x9 : Sl} (s : Shp M w) (hz : MZ b M) (hb : 3 * (2 * b + 1) ≤ 8000) (hw : w ≤ 1000) (hc : c < w) (hl : M.length ≤ 100) (hcs : cs.length ≤ M.length) :
    ∃ x6' x7' x8', k_b_stepped_5 [.ow (rowsD M), x1, .ow (natsD cs), .sh (.int cs.length), x4, .sh (.int c), x6, x7, x8, x9] W =
      some (.nx [.ow (rowsD (Km.run [c] M cs).1), x1, .ow (natsD (Km.run [c] M cs).2), .sh (.int (Km.run [c] M cs).2.length), x4, .sh (.int c), x6', x7', x8', x9] W) := by
  have r1 : Km.run [c] M cs = match stp M cs.length c with | none => (M, cs) | some M' => (M', cs ++ [c]) := by
    unfold Km.run
    cases stp M cs.length c <;> rfl
  unfold k_b_stepped_5
  rw [seq_nx (st_places s hc hcs hl)]
  unfold stp at r1
  cases ep : places M cs.length c with
  | nil =>
    rw [ep] at r1
    rw [r1]
    refine ⟨.ow (natsD []), x7, x8, ?_⟩
    have e0 : eqD true (natsD []) (.lst []) = some false := @eqD_nil true []
    simp [lim, pEq, e0]
  | cons p ps =>
    rw [ep] at r1
    rw [r1]
    dsimp only
    obtain ⟨h1, h2, h3⟩ := places_mem (show p ∈ places M cs.length c by rw [ep]; simp)
    have ha : cs.length < M.length := by omega
    have s1 := s.swp ha h2
    have l1 : (swp M cs.length p).length = M.length := swp_len
    have z1 := hz.swp ha h2
    have ha1 : cs.length < (swp M cs.length p).length := by rw [l1]; exact ha
    have f0 : ent (swp M cs.length p) cs.length c ≠ 0 := by rw [swp_ent ha h2]; exact h3
    have i2 := @idx_rows (swp M cs.length p) cs.length W ha1
    have i3 := @idx_row2 ((swp M cs.length p).getD cs.length []) c W (by rw [s1.get ha1]; exact hc)
    rw [show ((swp M cs.length p).getD cs.length []).getD c 0 = ent (swp M cs.length p) cs.length c from rfl] at i3
    have zf : Sz b (ent (swp M cs.length p) cs.length c) := (z1.get ha1).sz _ (getD_mem' (by rw [s1.get ha1]; exact hc))
    have zp := hz.pre s hc ha h2 h3
    have sp := pre_shp (a := cs.length) (c := c) s ha h2
    have lp : (pre M cs.length c p).length = M.length := pre_len
    obtain ⟨x7', ec⟩ := @st_clear W w c cs.length x1 (.ow (natsD cs)) x4 (.ow (natsD (p :: ps))) (.sh (enc (ent (swp M cs.length p) cs.length c))) x9 (2 * b + 1) hb hw hc (List.range M.length) (pre M cs.length c p) x7 (by rw [lp]; exact ha) (by simp [lp]) fun k _ => by
      have nd : ((List.range M.length).take k).Nodup := List.nodup_range.sublist (List.take_sublist _ _)
      have mm : ∀ q ∈ (List.range M.length).take k, q < (pre M cs.length c p).length := fun q hq => by rw [lp]; simpa using List.mem_of_mem_take hq
      exact ⟨sp.clr (by rw [lp]; exact ha) mm, fun r hr => (zp.clr sp hc (by rw [lp]; exact ha) nd mm r hr).sz⟩
    rw [← stp1_pre] at ec
    refine ⟨.ow (natsD (p :: ps)), x7', .sh (enc (ent (swp M cs.length p) cs.length c)), ?_⟩
    have e0 : eqD true (natsD (p :: ps)) (.lst []) = some true := @eqD_nil true (p :: ps)
    have test : c2 pNes (cVar 6) (cLst cNil) [.ow (rowsD M), x1, .ow (natsD cs), .sh (.int cs.length), x4, .sh (.int c), .ow (natsD (p :: ps)), x7, x8, x9] W = some (.val (.bl true) .sh W) := by
      simp [lim, pEq, e0]
    rw [ap_seq, ap_ifs, test]
    simp only [if_true]
    rw [seq_nx (st_swap ha h2)]
    rw [seq_nx (ρ' := [.ow (rowsD (swp M cs.length p)), x1, .ow (natsD cs), .sh (.int cs.length), x4, .sh (.int c), .ow (natsD (p :: ps)), x7, .sh (enc (ent (swp M cs.length p) cs.length c)), x9]) (W' := W) (by simp [i2, i3, -List.getD_eq_getElem?_getD])]
    rw [seq_nx (st_scale s1 (fun r hr => (z1 r hr).sz) zf f0 (by omega) hw ha1)]
    rw [show (swp M cs.length p).set cs.length (divs (ent (swp M cs.length p) cs.length c) ((swp M cs.length p).getD cs.length [])) = pre M cs.length c p from rfl]
    rw [seq_nx (for_nx (rng_ok (m := M.length) (k := .sh) (W' := W) (by simp [len_rows, pre_len]) (by omega)) ec)]
    rw [seq_nx (app_ok (l := cs.map fun (i : Nat) => D.int i) (d := .int c) (k := .sh) (W' := W) rfl (by simp) (by simp; omega))]
    rw [seq_nx (ap_aug (a := cs.length) (b := 1) (c := (cs.length : Int) + 1) (k := .sh) (W' := W) rfl (by simp) rfl)]
    simp [natsD]
end Wk

set_option Elab.async false
set_option linter.all false
set_option maxRecDepth 100000
set_option maxHeartbeats 4000000
namespace Wk
open PySem Km
theorem run_one {k : Nat} {M : Mat} : Km.run (List.range (k + 1)) M [] = Km.run [k] (Km.run (List.range k) M []).1 (Km.run (List.range k) M []).2 := by
  rw [List.range_succ, run_snoc]
  conv => rhs; unfold Km.run
  cases stp (Km.run (List.range k) M []).1 (Km.run (List.range k) M []).2.length k <;> rfl
theorem bn_le {b : Nat} : ∀ {k n : Nat}, k ≤ n → bn k b ≤ bn n b
  | k, 0, h => by
    have : k = 0 := by omega
    subst this; exact Nat.le_refl _
  | k, n + 1, h => by
    by_cases e : k = n + 1
    · subst e; exact Nat.le_refl _
    · have := bn_le (b := b) (k := k) (n := n) (by omega)
      show _ ≤ 2 * bn n b + 1
      omega
theorem t_stepped {M : Mat} {W : Ro} {w n b : Nat} {D1 : D} {e : Row → D} (he : e = encT ∨ e = encL) (h1 : seqOf D1 = some (M.map e)) (s : Shp M w) (hz : MZ b M) (hn : n ≤ w) (hw : w ≤ 1000) (hl : M.length ≤ 100) (hb : 3 * bn n b ≤ 8000) :
    k_f_stepped [D1, .int n] W = some (.val (.tup [rowsD (Km.run (List.range n) M []).1, natsD (Km.run (List.range n) M []).2]) .sh W) := by
  have e1 := @lcN_map Row (.nm 4) k_e_stepped_6 [.sh D1, .sh (.int n), .no, .no, .no, .no, .no, .no, .no, .no] W e encL M fun r _ => by
    refine ⟨[.sh D1, .sh (.int n), .no, .no, .sh (e r), .no, .no, .no, .no, .no], .sh, tg_nm, ?_⟩
    rcases he with rfl | rfl
    · simp [k_e_stepped_6, encT, encL]
    · simp [k_e_stepped_6, encL]
  have c1 := @comp_ok [4] (.nm 4) (cSeqI (cVar 0)) (cC (.bl true)) k_e_stepped_6 [.sh D1, .sh (.int n), .no, .no, .no, .no, .no, .no, .no, .no] W W W _ _ (by simp [h1]) (by rw [List.length_map]; omega) e1
  obtain ⟨ρ', W', e2, eW, x4, x5, x6, x7, x8, x9, er⟩ := @forN_range (.nm 5) k_b_stepped_5 n (fun j ρ W' => W' = W ∧ ∃ x4 x5 x6 x7 x8 x9, ρ = [.ow (rowsD (Km.run (List.range j) M []).1), .sh (.int n), .ow (natsD (Km.run (List.range j) M []).2), .sh (.int (Km.run (List.range j) M []).2.length), x4, x5, x6, x7, x8, x9])
    [.ow (rowsD M), .sh (.int n), .ow (natsD []), .sh (.int 0), .no, .no, .no, .no, .no, .no] W ⟨rfl, .no, .no, .no, .no, .no, .no, rfl⟩ (by
      rintro k hk ρ W' ⟨rfl, x4, x5, x6, x7, x8, x9, rfl⟩
      have o := run_all (n := k) s
      have z := hz.run s (n := n) (k := k) (by omega) hn
      have hb2 : 3 * (2 * bn k b + 1) ≤ 8000 := by
        have : bn (k + 1) b ≤ bn n b := bn_le (by omega)
        have : bn (k + 1) b = 2 * bn k b + 1 := rfl
        omega
      obtain ⟨x6', x7', x8', ec⟩ := @st_col _ W' w k (bn k b) _ (.sh (.int n)) x4 x6 x7 x8 x9 o.shp z hb2 hw (by omega) (by rw [o.len]; exact hl) o.red.le
      rw [← run_one] at ec
      exact ⟨_, _, _, tg_nm, ec, rfl, x4, .sh (.int k), x6', x7', x8', x9, rfl⟩)
  obtain rfl := eW
  subst er
  unfold k_f_stepped k_g_stepped runDef
  rw [seq_nx (ρ' := [.ow (rowsD M), .sh (.int n), .ow (natsD []), .sh (.int 0), .no, .no, .no, .no, .no, .no]) (W' := W') ?_]
  · rw [seq_nx (for_nx (rng_ok (m := n) (k := .sh) (W' := W') (by simp) (by omega)) e2)]
    simp [shr_cons, lim]
  · rw [ap_shr, shr_cons]
    simp only [env0]
    simp only [List.map_cons, List.map_nil, List.length_cons, List.length_nil, List.cons_append, List.nil_append, List.getElem?_cons_zero, shr_nil, List.replicate]
    rw [ap_par, ap_cons, c1]
    simp [lim, natsD, rowsD]
/-- the steps of a table and its units -/
theorem t_rank_of {A : Mat} {W : Ro} {w b : Nat} (s : Shp A w) (hz : MZ b A) (h1 : 1 ≤ A.length) (hw : w ≤ 1000) (hl : A.length ≤ 100) (hb : 3 * bn w b ≤ 8000) :
    k_f_rank_of [.tup (A.map encT)] W = some (.val (.int (Km.run (List.range w) A []).2.length) .sh W) := by
  have t := @t_stepped A W w w b (.tup (A.map encT)) encT (.inl rfl) rfl s hz (Nat.le_refl _) hw hl hb
  have i0 : pIdx W (.tup (A.map encT)) (.int 0) = some (encT (A.getD 0 []), .sh) := by
    rw [idx_tup, at_0, map_get [] (by omega)]; rfl
  have l0 : pLen [encT (A.getD 0 [])] = some (.int w, .sh) := by
    unfold encT
    rw [len_tup, List.length_map, s.get (by omega)]
  simp [k_f_rank_of, k_g_rank_of, runDef, env0, i0, l0, t, natsD, -List.getD_eq_getElem?_getD]
theorem t_rank {A : Mat} {W : Ro} {w b : Nat} (s : Shp A w) (hz : MZ b A) (h1 : 1 ≤ A.length) (h3 : 1 ≤ w) (hw : w ≤ 40) (hl : A.length ≤ 40) (hb : 3 * bn w b ≤ 8000) :
    k_f_rank [.tup (A.map encT)] W = some (.val (.int (Km.run (List.range w) A []).2.length) .sh W) := by
  have t1 := @t_need A w W s h1 hl h3 hw
  have t2 := @t_rank_of A W w b s hz h1 (by omega) (by omega) hb
  simp [k_f_rank, k_g_rank, runDef, env0, t1, t2]
end Wk

set_option Elab.async false
set_option linter.all false
set_option maxRecDepth 100000
set_option maxHeartbeats 4000000
namespace Wk
open PySem Km
/-! ### a table with its right sides and units -/
section
variable {A : Mat} {b : Row} {w : Nat}
theorem exts_len : (exts A b).length = A.length := by simp [exts]
theorem exts_get {k : Nat} (hk : k < A.length) : (exts A b).getD k [] = A.getD k [] ++ (b.getD k 0 :: unitR A.length k) := by
  unfold exts
  rw [List.getD_eq_getElem?_getD, List.getElem?_map, List.getElem?_range hk]
  rfl
theorem unit_len {m k : Nat} : (unitR m k).length = m := by simp [unitR]
theorem unit_get {m k j : Nat} (hj : j < m) : (unitR m k).getD j 0 = if k = j then 1 else 0 := by
  unfold unitR
  rw [List.getD_eq_getElem?_getD, List.getElem?_map, List.getElem?_range hj]
  rfl
theorem exts_shp (s : Shp A w) : Shp (exts A b) (w + 1 + A.length) := fun r hr => by
  obtain ⟨k, hk, rfl⟩ := mem_getD hr
  rw [exts_len] at hk
  rw [exts_get hk, List.length_append, List.length_cons, unit_len, s.get hk]
  omega
theorem getD_left {x y : Row} {c : Nat} (h : c < x.length) : (x ++ y).getD c 0 = x.getD c 0 := by
  simp only [List.getD_eq_getElem?_getD, List.getElem?_append_left h]
theorem getD_right {x y : Row} {c : Nat} : (x ++ y).getD (x.length + c) 0 = y.getD c 0 := by
  simp only [List.getD_eq_getElem?_getD]
  rw [List.getElem?_append_right (by omega), Nat.add_sub_cancel_left]
theorem exts_a (s : Shp A w) {k c : Nat} (hk : k < A.length) (hc : c < w) : ent (exts A b) k c = ent A k c := by
  unfold ent
  rw [exts_get hk, getD_left (by rw [s.get hk]; exact hc)]
theorem exts_b (s : Shp A w) {k : Nat} (hk : k < A.length) : ent (exts A b) k w = b.getD k 0 := by
  unfold ent
  have := @getD_right (A.getD k []) (b.getD k 0 :: unitR A.length k) 0
  rw [s.get hk, Nat.add_zero] at this
  rw [exts_get hk, this]
  rfl
theorem exts_u (s : Shp A w) {k j : Nat} (hk : k < A.length) (hj : j < A.length) : ent (exts A b) k (w + 1 + j) = if k = j then 1 else 0 := by
  unfold ent
  have := @getD_right (A.getD k []) (b.getD k 0 :: unitR A.length k) (1 + j)
  rw [s.get hk, ← Nat.add_assoc] at this
  rw [exts_get hk, this, Nat.add_comm 1 j, List.getD_cons_succ, unit_get hj]
theorem exts_tk (s : Shp A w) : tk w (exts A b) = A := by
  apply List.ext_getElem
  · rw [tk_len, exts_len]
  · intro i h1 h2
    have g := @tk_get w i (exts A b)
    rw [exts_get h2, List.take_left' (s.get h2)] at g
    simp only [List.getD_eq_getElem?_getD, List.getElem?_eq_getElem h1, List.getElem?_eq_getElem h2, Option.getD_some] at g
    exact g
theorem exts_cols (s : Shp A w) : (Km.run (List.range w) A []).2 = (Km.run (List.range w) (exts A b) []).2 := by
  have := @tk_run w (List.range w) (exts A b) [] (by simp)
  rw [exts_tk s] at this
  rw [this]
end
theorem cut_from {l : List D} {k : Nat} (h : k ≤ l.length) : cutD l (some (k : Int)) none = l.drop k := by
  unfold cutD
  rw [HT.sIx_nat, HT.sIx_none, Nat.min_eq_left h]
  exact List.take_of_length_le (by simp)
theorem ap_sl {f g : Sm} {ρ : Env'} {W W1 W2 : Ro} {d : D} {k k' : Kd} {i : Int} (h : f ρ W = some (.val d k W1)) (h2 : g ρ W1 = some (.val (.int i) k' W2)) : cSl f (some g) none ρ W = (pSl d (some i) none).map fun q => .val q.1 q.2 W2 := by
  unfold cSl
  rw [ap_bind, h]
  dsimp only
  unfold cPart
  dsimp only
  rw [ap_bind, h2]
  dsimp only
  rfl
section
variable {W : Ro} {w : Nat} {D1 D2 x3 x4 x6 x7 : Sl}
theorem sol_scan (hw : w ≤ 1000) : ∀ (l : Mat) (x5 : Sl), (∀ r ∈ l, w < r.length ∧ r.length ≤ 1000) →
    ((∀ r ∈ l, r.getD w 0 = 0) ∧ ∃ x5', forN (.nm 5) k_b_solution_2 (l.map encL) [D1, D2, .sh (.int w), x3, x4, x5, x6, x7] W = some (.nx [D1, D2, .sh (.int w), x3, x4, x5', x6, x7] W)) ∨
    ∃ r ∈ l, r.getD w 0 ≠ 0 ∧ forN (.nm 5) k_b_solution_2 (l.map encL) [D1, D2, .sh (.int w), x3, x4, x5, x6, x7] W = some (.rt (.tup [.str "none", encT (r.drop (w + 1))]) .sh W)
  | [], x5, _ => .inl ⟨by simp, x5, rfl⟩
  | r :: l, x5, h => by
    obtain ⟨h1, h2⟩ := h r (by simp)
    have i3 := @idx_row2 r w W h1
    have test : c2 pNes (c2 pIdx (c2 pIdx (cVar 5) (cVar 2)) (cC (.int 0))) (cC (.int 0)) [D1, D2, .sh (.int w), x3, x4, .sh (encL r), x6, x7] W = some (.val (.bl (!decide (r.getD w 0 = 0))) .sh W) := by
      simp [i3, rat_num, -List.getD_eq_getElem?_getD]
    by_cases h0 : r.getD w 0 = 0
    · have e1 : k_b_solution_2 [D1, D2, .sh (.int w), x3, x4, .sh (encL r), x6, x7] W = some (.nx [D1, D2, .sh (.int w), x3, x4, .sh (encL r), x6, x7] W) := by
        unfold k_b_solution_2
        rw [ap_seq, ap_ifs, test]
        simp only [h0, decide_true, Bool.not_true, Bool.false_eq_true, if_false, ap_nx]
      have e2 : forN (.nm 5) k_b_solution_2 ((r :: l).map encL) [D1, D2, .sh (.int w), x3, x4, x5, x6, x7] W = forN (.nm 5) k_b_solution_2 (l.map encL) [D1, D2, .sh (.int w), x3, x4, .sh (encL r), x6, x7] W := by
        rw [List.map_cons, forN]
        dsimp only
        rw [tg_nm]
        simp only [List.set_cons_succ, List.set_cons_zero]
        rw [e1]
      rw [e2]
      rcases sol_scan hw l (.sh (encL r)) (fun q hq => h q (by simp [hq])) with ⟨g1, g2⟩ | ⟨q, hq, g1, g2⟩
      · exact .inl ⟨fun q hq => by rcases List.mem_cons.mp hq with rfl | hq <;> first | exact h0 | exact g1 q hq, g2⟩
      · exact .inr ⟨q, by simp [hq], g1, g2⟩
    · refine .inr ⟨r, by simp, h0, ?_⟩
      have sl : cSl (cVar 5) (some (c2 pAdd (cVar 2) (cC (.int 1)))) none [D1, D2, .sh (.int w), x3, x4, .sh (encL r), x6, x7] W = some (.val (.lst ((r.drop (w + 1)).map enc)) .fr W) := by
        rw [ap_sl (d := encL r) (k := .sh) (W1 := W) (W2 := W) (i := ((w + 1 : Nat) : Int)) (k' := .sh) (by simp) (by simp)]
        unfold encL pSl
        dsimp only
        rw [cut_from (by rw [List.length_map]; omega), List.map_drop]
        rfl
      have e1 : k_b_solution_2 [D1, D2, .sh (.int w), x3, x4, .sh (encL r), x6, x7] W = some (.rt (.tup [.str "none", encT (r.drop (w + 1))]) .sh W) := by
        unfold k_b_solution_2
        rw [ap_seq, ap_ifs, test]
        simp only [h0, decide_false, Bool.not_false, if_true]
        rw [ap_seq, ap_ret, ap_tup, ap_cons, ap_fr, ap_c]
        simp only [reduceCtorEq, if_false]
        rw [ap_cons, ap_fr, ap_L, ap_cons, sl]
        simp [lim, encT]
      rw [List.map_cons, forN]
      dsimp only
      rw [tg_nm]
      simp only [List.set_cons_succ, List.set_cons_zero]
      rw [e1]
end
end Wk

set_option Elab.async false
set_option linter.all false
set_option maxRecDepth 100000
set_option maxHeartbeats 4000000
namespace Wk
open PySem Km
theorem noughts {w : Nat} {W : Ro} (hw : w ≤ 1000) : pMul W (.lst [enc 0]) (.int w) = some (.lst ((List.replicate w (0 : Rat)).map enc), .fr) := by
  have e : (List.replicate w [enc 0]).flatten = (List.replicate w (0 : Rat)).map enc := by
    rw [List.map_replicate]
    induction w with
    | zero => rfl
    | succ w ih => rw [List.replicate_succ, List.flatten_cons, ih (by omega), List.replicate_succ]; rfl
  unfold pMul
  dsimp only
  rw [if_pos ⟨by omega, by omega, by rw [Int.toNat_natCast, List.length_cons, List.length_nil]; unfold lim; omega⟩, Int.toNat_natCast, e]
theorem pick_succ {k : Nat} {cs : List Nat} {v : Nat → Rat} {c : Nat} : pick (k + 1) cs v c = pick k cs v c + if c = cs.getD k 0 then v k else 0 := rfl
theorem pick_new {k : Nat} {cs : List Nat} {v : Nat → Rat} (h : ∀ i, i < k → cs.getD i 0 < cs.getD k 0) : pick k cs v (cs.getD k 0) = 0 :=
  sum_zero fun i hi => by rw [if_neg]; have := h i hi; omega
theorem set_getD {x : Row} {c d : Nat} {v : Rat} (hd : d < x.length) : (x.set d v).getD c 0 = if c = d then v else x.getD c 0 := by
  simp only [List.getD_eq_getElem?_getD]
  by_cases h : c = d
  · subst h; rw [List.getElem?_set_self hd, if_pos rfl]; rfl
  · rw [List.getElem?_set_ne (Ne.symm h), if_neg h]
theorem sol_fill {W : Ro} {w n : Nat} {D1 D2 x3 x4 x5 x7 : Sl} {R : Mat} {cs : List Nat} (hlt : ∀ j, j < cs.length → cs.getD j 0 < w) (hm : ∀ i j, i < j → j < cs.length → cs.getD i 0 < cs.getD j 0) (hR : cs.length ≤ R.length) (hs : Shp R n) (hn : w < n) :
    ∃ (x5' x7' : Sl) (x : Row), forN (.tp [(.nm 5), (.nm 7)]) k_b_solution_1 ((List.zip R cs).map fun p => .tup [encL p.1, .int (p.2 : Nat)]) [D1, D2, .sh (.int w), x3, x4, x5, .ow (.lst ((List.replicate w (0 : Rat)).map enc)), x7] W = some (.nx [D1, D2, .sh (.int w), x3, x4, x5', .ow (.lst (x.map enc)), x7'] W) ∧
      x.length = w ∧ ∀ c, c < w → x.getD c 0 = pick cs.length cs (fun j => ent R j w) c := by
  obtain ⟨ρ', W', e, eW, x5', x7', x, er, hx, hp⟩ := @forN_at (Row × Nat) (.tp [(.nm 5), (.nm 7)]) k_b_solution_1 (fun p => .tup [encL p.1, .int (p.2 : Nat)]) (fun j ρ W' => W' = W ∧ ∃ (x5 x7 : Sl) (x : Row), ρ = [D1, D2, .sh (.int w), x3, x4, x5, .ow (.lst (x.map enc)), x7] ∧ x.length = w ∧ ∀ c, c < w → x.getD c 0 = pick j cs (fun j => ent R j w) c)
    (List.zip R cs) 0 _ W ⟨rfl, x5, x7, List.replicate w 0, rfl, by simp, fun c hc => by
      rw [List.getD_eq_getElem?_getD, List.getElem?_replicate, if_pos hc]; rfl⟩ (by
    rintro k ⟨r, cn⟩ hk ρ W' ⟨rfl, x5, x7, x, rfl, hx, hp⟩
    rw [Nat.zero_add] at hp ⊢
    have hkl := (List.getElem?_eq_some_iff.mp hk).1
    rw [List.length_zip] at hkl
    have hk2 : k < cs.length := by omega
    have hk3 : k < R.length := by omega
    rw [List.getElem?_zip_eq_some] at hk
    obtain ⟨er, ec⟩ := hk
    have er' : R.getD k [] = r := by rw [List.getD_eq_getElem?_getD, er]; rfl
    have ec' : cs.getD k 0 = cn := by rw [List.getD_eq_getElem?_getD, ec]; rfl
    have hcn : cn < w := ec' ▸ hlt k hk2
    have i3 := @idx_row2 r w W' (by rw [← er', hs.get hk3]; exact hn)
    have hv : r.getD w 0 = ent R k w := by unfold ent; rw [er']
    rw [hv] at i3
    refine ⟨[D1, D2, .sh (.int w), x3, x4, .sh (encL r), .ow (.lst (x.map enc)), .sh (.int cn)], [D1, D2, .sh (.int w), x3, x4, .sh (encL r), .ow (.lst ((x.set cn (ent R k w)).map enc)), .sh (.int cn)], W', by simp, ?_, rfl, _, _, _, rfl, by simp [hx], fun c hc => ?_⟩
    · have hs := @setI_ow [D1, D2, .sh (.int w), x3, x4, .sh (encL r), .ow (.lst (x.map enc)), .sh (.int cn)] W' (enc (ent R k w)) 6 (x.map enc) cn rfl (by simpa [hx] using hcn)
      rw [← List.map_set] at hs
      simp [k_b_solution_1, i3, held, hs, -List.getD_eq_getElem?_getD]
    · rw [set_getD (by rw [hx]; exact hcn), pick_succ, ec']
      split
      · rename_i h
        subst h
        rw [← ec', pick_new fun i hi => hm i k hi hk2, Rat.zero_add]
      · rw [hp c hc, Rat.add_zero])
  obtain rfl := eW
  subst er
  refine ⟨x5', x7', x, e, hx, fun c hc => ?_⟩
  rw [hp c hc, List.length_zip, Nat.zero_add, Nat.min_eq_right hR]
theorem sol_one {a b c d f : Sl} {k w : Nat} {x : Row} {cs : List Nat} {W : Ro} (hcs : cs.length = k) : cRet (cTup (cCons (cFr (cIf (c2 pEqs (cL pLen (cCons (cVar 4) cNil)) (cVar 2)) (cC (.str "one")) (cC (.str "many")))) (cCons (cFr (cL pTuple (cCons (cVar 6) cNil))) cNil))) [a, b, .sh (.int w), c, .sh (natsD cs), d, .ow (.lst (x.map enc)), f] W =
    some (.rt (.tup [.str (if k = w then "one" else "many"), encT x]) .sh W) := by
  subst hcs
  by_cases hk : cs.length = w
  · simp [natsD, hk, lim, encT]
  · have hk' : ¬ ((cs.length : Nat) : Int) = (w : Int) := by omega
    simp [natsD, hk, hk', lim, encT]
theorem sol_nought {a b c d e f g : Sl} {w : Nat} {W : Ro} (hw : w ≤ 1000) : cAsg 6 (c2 pMul (cLst (cCons (cFr (cC (.tup [.int 0, .int 1]))) cNil)) (cVar 2)) [a, b, .sh (.int w), c, d, e, f, g] W = some (.nx [a, b, .sh (.int w), c, d, e, .ow (.lst ((List.replicate w (0 : Rat)).map enc)), g] W) := by
  have no := @noughts w W hw
  have hl : cLst (cCons (cFr (cC (.tup [.int 0, .int 1]))) cNil) [a, b, .sh (.int w), c, d, e, f, g] W = some (.val (.lst [enc 0]) .fr W) := by simp [lim, enc0]
  have hv : cVar 2 [a, b, .sh (.int w), c, d, e, f, g] W = some (.val (.int w) .sh W) := rfl
  have hc : c2 pMul (cLst (cCons (cFr (cC (.tup [.int 0, .int 1]))) cNil)) (cVar 2) [a, b, .sh (.int w), c, d, e, f, g] W = some (.val (.lst ((List.replicate w (0 : Rat)).map enc)) .fr W) := by
    rw [ap_c2, hl]
    dsimp only
    rw [hv]
    dsimp only
    rw [no]
    rfl
  rw [ap_asg, hc]
  rfl
theorem t_solution {A : Mat} {b : Row} {W : Ro} {w q : Nat} {D2 : D} (s : Shp A w) (hb : seqOf D2 = some (b.map enc)) (hbl : b.length = A.length) (h1 : 1 ≤ A.length) (hl : A.length ≤ 40) (hw : w ≤ 40) (hz : MZ q (exts A b)) (hq : 3 * bn w q ≤ 8000)
    {R : Mat × List Nat} (hR : R = Km.run (List.range w) (exts A b) []) :
    (∃ i, R.2.length ≤ i ∧ i < R.1.length ∧ ent R.1 i w ≠ 0 ∧ k_f_solution [.tup (A.map encT), D2] W = some (.val (.tup [.str "none", encT ((R.1.getD i []).drop (w + 1))]) .sh W)) ∨
    ((∀ i, R.2.length ≤ i → i < R.1.length → ent R.1 i w = 0) ∧ ∃ x : Row, x.length = w ∧ (∀ c, c < w → x.getD c 0 = pick R.2.length R.2 (fun j => ent R.1 j w) c) ∧
      k_f_solution [.tup (A.map encT), D2] W = some (.val (.tup [.str (if R.2.length = w then "one" else "many"), encT x]) .sh W)) := by
  have o := run_all (n := w) (exts_shp (b := b) s)
  rw [← hR] at o
  have t1 := @t_units A b W (.tup (A.map encT)) D2 rfl hb (by omega) hbl (fun r hr => by rw [s r hr]; omega)
  have t2 := @t_stepped (exts A b) W (w + 1 + A.length) w q (.lst ((exts A b).map encL)) encL (.inr rfl) rfl (exts_shp s) hz (by omega) (by omega) (by rw [exts_len]; omega) hq
  rw [← hR] at t2
  have i0 : pIdx W (.tup (A.map encT)) (.int 0) = some (encT (A.getD 0 []), .sh) := by
    rw [idx_tup, at_0, map_get [] (by omega)]; rfl
  have l0 : pLen [encT (A.getD 0 [])] = some (.int w, .sh) := by
    unfold encT
    rw [len_tup, List.length_map, s.get (by omega)]
  have scan := @sol_scan W w (.sh (.tup (A.map encT))) (.sh D2) (.sh (rowsD R.1)) (.sh (natsD R.2)) .no .no (by omega) (R.1.drop R.2.length) .no fun r hr => by
    have := o.shp r (List.mem_of_mem_drop hr)
    omega
  have sl : cSl (cVar 3) (some (cL pLen (cCons (cVar 4) cNil))) none [.sh (.tup (A.map encT)), .sh D2, .sh (.int w), .sh (rowsD R.1), .sh (natsD R.2), .no, .no, .no] W = some (.val (.lst ((R.1.drop R.2.length).map encL)) .fr W) := by
    rw [ap_sl (d := rowsD R.1) (k := .sh) (W1 := W) (W2 := W) (i := (R.2.length : Int)) (k' := .sh) (by simp) (by simp [natsD])]
    unfold rowsD pSl
    dsimp only
    rw [cut_from (by rw [List.length_map]; exact o.red.le), List.map_drop]
    rfl
  have it : cSeqI (cSl (cVar 3) (some (cL pLen (cCons (cVar 4) cNil))) none) [.sh (.tup (A.map encT)), .sh D2, .sh (.int w), .sh (rowsD R.1), .sh (natsD R.2), .no, .no, .no] W = some (.its ((R.1.drop R.2.length).map encL) W) := by
    rw [ap_seqI, ap_fr, sl]
    simp
  have head : k_f_solution [.tup (A.map encT), D2] W = same? W (outD (cSeq (cFor (.nm 5) (cSeqI (cSl (cVar 3) (some (cL pLen (cCons (cVar 4) cNil))) none)) k_b_solution_2)
      (cSeq (cAsg 6 (c2 pMul (cLst (cCons (cFr (cC (.tup [.int 0, .int 1]))) cNil)) (cVar 2)))
      (cSeq (cFor (.tp [(.nm 5), (.nm 7)]) (cZip (cCons (cFr (cVar 3)) (cCons (cFr (cVar 4)) cNil))) k_b_solution_1)
      (cSeq (cRet (cTup (cCons (cFr (cIf (c2 pEqs (cL pLen (cCons (cVar 4) cNil)) (cVar 2)) (cC (.str "one")) (cC (.str "many")))) (cCons (cFr (cL pTuple (cCons (cVar 6) cNil))) cNil))))
      cNx))) [.sh (.tup (A.map encT)), .sh D2, .sh (.int w), .sh (rowsD R.1), .sh (natsD R.2), .no, .no, .no] W)) := by
    unfold k_f_solution k_g_solution runDef
    rw [seq_nx (ρ' := [.sh (.tup (A.map encT)), .sh D2, .sh (.int w), .no, .no, .no, .no, .no]) (W' := W) (by simp [env0, i0, l0, -List.getD_eq_getElem?_getD])]
    rw [seq_nx (ρ' := [.sh (.tup (A.map encT)), .sh D2, .sh (.int w), .sh (rowsD R.1), .sh (natsD R.2), .no, .no, .no]) (W' := W) (by simp [t1, t2])]
  rw [head]
  rcases scan with ⟨g1, x5', g2⟩ | ⟨r, hr, g1, g2⟩
  · right
    refine ⟨fun i hi1 hi2 => ?_, ?_⟩
    · refine g1 (R.1.getD i []) ?_
      rw [List.mem_iff_getElem?]
      refine ⟨i - R.2.length, ?_⟩
      rw [List.getElem?_drop, show R.2.length + (i - R.2.length) = i by omega, List.getD_eq_getElem?_getD, List.getElem?_eq_getElem hi2]; rfl
    · rw [seq_nx (for_nx it g2)]
      rw [seq_nx (sol_nought (by omega))]
      obtain ⟨x5'', x7'', x, ef, hx, hp⟩ := @sol_fill W w (w + 1 + A.length) (.sh (.tup (A.map encT))) (.sh D2) (.sh (rowsD R.1)) (.sh (natsD R.2)) x5' .no R.1 R.2 o.red.lt o.red.mono o.red.le o.shp (by omega)
      refine ⟨x, hx, hp, ?_⟩
      have iz : cZip (cCons (cFr (cVar 3)) (cCons (cFr (cVar 4)) cNil)) [.sh (.tup (A.map encT)), .sh D2, .sh (.int w), .sh (rowsD R.1), .sh (natsD R.2), x5', .ow (.lst ((List.replicate w (0 : Rat)).map enc)), .no] W = some (.its ((List.zip R.1 R.2).map fun p => .tup [encL p.1, .int (p.2 : Nat)]) W) := by
        have hz2 := @zip_two Row Nat encL (fun (i : Nat) => D.int i) R.1 R.2
        rw [ap_zip]
        simp only [ap_cons, ap_fr, ap_var, ap_nil, List.getElem?_cons_succ, List.getElem?_cons_zero, reduceCtorEq, if_false, shs_cons, shs_nil, Option.map_some, seqsOf, rowsD, natsD, seq_lst]
        rw [hz2]
      rw [seq_nx (for_nx iz ef)]
      rw [ap_seq, sol_one rfl]
      simp
  · left
    rw [List.mem_iff_getElem?] at hr
    obtain ⟨j, hj⟩ := hr
    rw [List.getElem?_drop] at hj
    have hi := (List.getElem?_eq_some_iff.mp hj).1
    have eg : R.1.getD (R.2.length + j) [] = r := by rw [List.getD_eq_getElem?_getD, hj]; rfl
    refine ⟨R.2.length + j, by omega, hi, ?_, ?_⟩
    · unfold ent; rw [eg]; exact g1
    · rw [eg, ap_seq, ap_for, it]
      dsimp only
      rw [g2]
      simp
end Wk

set_option Elab.async false
set_option linter.all false
set_option maxRecDepth 100000
set_option maxHeartbeats 4000000
namespace Wk
open PySem Km
theorem seq_exc {F G : SmS} {ρ ρ' : Env'} {W W' : Ro} {c : Str} (h : F ρ W = some (.exc c ρ' W')) : cSeq F G ρ W = some (.exc c ρ' W') := by rw [ap_seq, h]
theorem seq_rt {F G : SmS} {ρ : Env'} {W W' : Ro} {d : D} {k : Kd} (h : F ρ W = some (.rt d k W')) : cSeq F G ρ W = some (.rt d k W') := by rw [ap_seq, h]
theorem t_solved {A : Mat} {b : Row} {W : Ro} {w : Nat} {d : D} (s : Shp A w) (hbl : b.length = A.length) (h1 : 1 ≤ A.length) (hl : A.length ≤ 40) (h3 : 1 ≤ w) (hw : w ≤ 40) (h : k_f_solution [.tup (A.map encT), .tup (b.map enc)] W = some (.val d .sh W)) :
    k_f_solved [.tup (A.map encT), .tup (b.map enc)] W = some (.val d .sh W) := by
  have t1 := @t_need A w W s h1 hl h3 hw
  have t2 := @t_ratios (cVar 1) k_e_solved_1 [.sh (.tup (A.map encT)), .sh (.tup (b.map enc)), .no] W b (.tup (b.map enc)) .sh rfl (by omega) (by simp) (by simp) (by simp)
  unfold k_f_solved k_g_solved runDef
  rw [seq_nx (ρ' := [.sh (.tup (A.map encT)), .sh (.tup (b.map enc)), .no]) (W' := W) (by simp [env0, t1])]
  have q1 : cL pIsi (cCons (cVar 1) (cCons (cC (.ty "tuple")) cNil)) [.sh (.tup (A.map encT)), .sh (.tup (b.map enc)), .no] W = some (.val (.bl true) .sh W) := by simp [pIsi, tyN, isiB]
  have q2 : c2 pNes (cL pLen (cCons (cVar 1) cNil)) (cL pLen (cCons (cVar 0) cNil)) [.sh (.tup (A.map encT)), .sh (.tup (b.map enc)), .no] W = some (.val (.bl false) .sh W) := by simp [hbl]
  have q3 : cOr (cNot (cL pIsi (cCons (cVar 1) (cCons (cC (.ty "tuple")) cNil)))) (cOr (c2 pNes (cL pLen (cCons (cVar 1) cNil)) (cL pLen (cCons (cVar 0) cNil))) (cNot (cL pAll (cCons (cComp [2] (.nm 2) (cSeqI (cVar 1)) (cC (.bl true)) k_e_solved_1) cNil)))) [.sh (.tup (A.map encT)), .sh (.tup (b.map enc)), .no] W = some (.val (.bl false) .sh W) := by
    rw [ap_or, ap_not, q1]
    simp only [Bool.not_true]
    rw [ap_or, q2]
    simp only
    rw [ap_not, t2]
    simp only [Bool.not_true]
  rw [seq_nx (ρ' := [.sh (.tup (A.map encT)), .sh (.tup (b.map enc)), .no]) (W' := W) (by rw [ap_ifs, q3]; rfl)]
  simp [h]
theorem inv_un {g : Sm} {ρ : Env'} {W : Ro} {a x y z u : D} {n : Int} (hr : ρ = [.sh a, .sh (.int n), .no, .no, .no]) (hg : g ρ W = some (.val x .fr W)) (t1 : k_f_with_units [a, x] W = some (.val y .fr W)) (t2 : k_f_stepped [y, .int n] W = some (.val (.tup [z, u]) .sh W)) :
    cUn [2, 3] (cCall k_f_stepped (cCons (cFr (cCall k_f_with_units (cCons (cFr (cVar 0)) (cCons (cFr g) cNil)))) (cCons (cFr (cVar 1)) cNil))) ρ W = some (.nx [.sh a, .sh (.int n), .sh z, .sh u, .no] W) := by
  subst hr
  simp [hg, t1, t2]
theorem t_inverse {A : Mat} {W : Ro} {n q : Nat} (s : Shp A n) (h1 : 1 ≤ n) (hl : A.length = n) (hn : n ≤ 40) (hz : MZ q (exts A (List.replicate n 0))) (hq : 3 * bn n q ≤ 8000) {R : Mat × List Nat} (hR : R = Km.run (List.range n) (exts A (List.replicate n 0)) []) :
    k_f_inverse [.tup (A.map encT)] W = some (.val (if R.2.length = n then .tup (R.1.map fun r => encT (r.drop (n + 1))) else .non) .sh W) := by
  have o := run_all (n := n) (exts_shp (b := List.replicate n 0) s)
  rw [← hR] at o
  have t0 := @t_need A n W s (by omega) (by omega) h1 hn
  have t1 := @t_units A (List.replicate n 0) W (.tup (A.map encT)) (.lst ((List.replicate n (0 : Rat)).map enc)) rfl rfl (by omega) (by simp [hl]) (fun r hr => by rw [s r hr]; omega)
  have t2 := @t_stepped (exts A (List.replicate n 0)) W (n + 1 + A.length) n q (.lst ((exts A (List.replicate n 0)).map encL)) encL (.inr rfl) rfl (exts_shp s) hz (by omega) (by omega) (by rw [exts_len]; omega) hq
  rw [← hR] at t2
  have i0 : pIdx W (.tup (A.map encT)) (.int 0) = some (encT (A.getD 0 []), .sh) := by
    rw [idx_tup, at_0, map_get [] (by omega)]; rfl
  have l0 : pLen [encT (A.getD 0 [])] = some (.int n, .sh) := by
    unfold encT
    rw [len_tup, List.length_map, s.get (by omega)]
  unfold k_f_inverse k_g_inverse runDef
  rw [seq_nx (ρ' := [.sh (.tup (A.map encT)), .no, .no, .no, .no]) (W' := W) (by simp [env0, t0])]
  rw [seq_nx (ρ' := [.sh (.tup (A.map encT)), .no, .no, .no, .no]) (W' := W) (by simp [i0, l0, hl, -List.getD_eq_getElem?_getD])]
  rw [seq_nx (ρ' := [.sh (.tup (A.map encT)), .sh (.int n), .no, .no, .no]) (W' := W) (by simp [hl])]
  have no := @noughts n W (by omega)
  have hm : c2 pMul (cLst (cCons (cFr (cC (.tup [.int 0, .int 1]))) cNil)) (cVar 1) [.sh (.tup (A.map encT)), .sh (.int n), .no, .no, .no] W = some (.val (.lst ((List.replicate n (0 : Rat)).map enc)) .fr W) := by
    have hl : cLst (cCons (cFr (cC (.tup [.int 0, .int 1]))) cNil) [.sh (.tup (A.map encT)), .sh (.int n), .no, .no, .no] W = some (.val (.lst [enc 0]) .fr W) := by simp [lim, enc0]
    have hv : cVar 1 [.sh (.tup (A.map encT)), .sh (.int n), .no, .no, .no] W = some (.val (.int n) .sh W) := rfl
    rw [ap_c2, hl]
    dsimp only
    rw [hv]
    dsimp only
    rw [no]
    rfl
  have hs := inv_un rfl hm t1 t2
  rw [seq_nx hs]
  by_cases hk : R.2.length = n
  · have e := @lcN_map Row (.nm 4) k_e_inverse_1 [.sh (.tup (A.map encT)), .sh (.int n), .sh (rowsD R.1), .sh (natsD R.2), .no] W encL (fun r => encT (r.drop (n + 1))) R.1 fun r hr => by
      refine ⟨[.sh (.tup (A.map encT)), .sh (.int n), .sh (rowsD R.1), .sh (natsD R.2), .sh (encL r)], .sh, tg_nm, ?_⟩
      have hr2 := o.shp r hr
      have sl : cSl (cVar 4) (some (c2 pAdd (cVar 1) (cC (.int 1)))) none [.sh (.tup (A.map encT)), .sh (.int n), .sh (rowsD R.1), .sh (natsD R.2), .sh (encL r)] W = some (.val (.lst ((r.drop (n + 1)).map enc)) .fr W) := by
        rw [ap_sl (d := encL r) (k := .sh) (W1 := W) (W2 := W) (i := ((n + 1 : Nat) : Int)) (k' := .sh) (by simp) (by simp)]
        unfold encL pSl
        dsimp only
        rw [cut_from (by rw [List.length_map]; omega), List.map_drop]
        rfl
      unfold k_e_inverse_1
      rw [ap_fr, ap_L, ap_cons, sl]
      simp [encT]
    have c := @comp_ok [4] (.nm 4) (cSeqI (cVar 2)) (cC (.bl true)) k_e_inverse_1 [.sh (.tup (A.map encT)), .sh (.int n), .sh (rowsD R.1), .sh (natsD R.2), .no] W W W _ _ (by simp [rowsD]) (by rw [List.length_map, o.len, exts_len]; omega) e
    have test : c2 pEqs (cL pLen (cCons (cVar 3) cNil)) (cVar 1) [.sh (.tup (A.map encT)), .sh (.int n), .sh (rowsD R.1), .sh (natsD R.2), .no] W = some (.val (.bl true) .sh W) := by
      simp [natsD, hk]
    rw [if_pos hk, ap_seq, ap_ret, ap_if, test]
    simp only
    rw [ap_L, ap_cons, c]
    simp
  · have hk' : ¬ ((R.2.length : Nat) : Int) = (n : Int) := by omega
    rw [if_neg hk]
    simp [natsD, hk']
end Wk

set_option Elab.async false
set_option linter.all false
set_option maxRecDepth 100000
set_option maxHeartbeats 4000000
namespace Wk
open PySem Km
/-- a whole number over S -/
def Gr (S B : Nat) (x : Rat) : Prop := ∃ a : Int, x = Rat.divInt a (S : Int) ∧ a.natAbs ≤ B
theorem Gr.mul {S T B C : Nat} {x y : Rat} (hx : Gr S B x) (hy : Gr T C y) : Gr (S * T) (B * C) (x * y) := by
  obtain ⟨a, rfl, ha⟩ := hx
  obtain ⟨b, rfl, hb⟩ := hy
  refine ⟨a * b, ?_, ?_⟩
  · rw [Rat.divInt_mul_divInt]; rfl
  · rw [Int.natAbs_mul]; exact Nat.mul_le_mul ha hb
theorem Gr.scale {S B : Nat} {x : Rat} (k : Nat) (hk : k ≠ 0) (hx : Gr S B x) : Gr (S * k) (B * k) x := by
  obtain ⟨a, rfl, ha⟩ := hx
  refine ⟨a * k, ?_, ?_⟩
  · rw [show ((S * k : Nat) : Int) = (S : Int) * (k : Int) from rfl, Rat.divInt_mul_right (by omega)]
  · rw [Int.natAbs_mul, Int.natAbs_natCast]; exact Nat.mul_le_mul_right _ ha
theorem Gr.mono {S B C : Nat} {x : Rat} (h : Gr S B x) (hc : B ≤ C) : Gr S C x := by
  obtain ⟨a, e, ha⟩ := h
  exact ⟨a, e, by omega⟩
theorem Gr.add {S B C : Nat} {x y : Rat} (hS : S ≠ 0) (hx : Gr S B x) (hy : Gr S C y) : Gr S (B + C) (x + y) := by
  obtain ⟨a, rfl, ha⟩ := hx
  obtain ⟨b, rfl, hb⟩ := hy
  refine ⟨a + b, ?_, by omega⟩
  have := cast_ne (d := (S : Int)) (by omega)
  rw [toQ, toQ, toQ, Rat.intCast_add]
  simp only [Rat.div_def]
  grind
theorem Gr.sz {S B n : Nat} {x : Rat} (h : Gr S B x) (hS : S ≠ 0) (h1 : S < 2 ^ n) (h2 : B < 2 ^ n) : Sz n x := by
  obtain ⟨a, rfl, ha⟩ := h
  exact Sz.divInt (by omega) (by simpa using h1) (by omega)
theorem Gr.int {S : Nat} (k : Int) (hS : S ≠ 0) : Gr S (k.natAbs * S) (k : Rat) := by
  refine ⟨k * S, ?_, by rw [Int.natAbs_mul, Int.natAbs_natCast]; exact Nat.le_refl _⟩
  have := cast_ne (d := (S : Int)) (by omega)
  rw [toQ, Rat.intCast_mul]
  simp only [Rat.div_def]
  grind
theorem Gr.zero {S : Nat} (hS : S ≠ 0) : Gr S 0 0 := by
  have := Gr.int (S := S) 0 hS
  simpa using this
theorem Gr.one {S : Nat} (hS : S ≠ 0) : Gr S S 1 := by
  have := Gr.int (S := S) 1 hS
  simpa using this
/-! ### draws of ratios -/
theorem gr12 {k m : Int} (hk : k.natAbs ≤ 3) (h0 : 0 ≤ m) (h1 : m < 4) : Gr 12 36 (Rat.divInt k (1 + m)) := by
  have go : ∀ d e : Nat, 1 + m = (d : Int) → d * e = 12 → d ≠ 0 → e ≠ 0 → e ≤ 12 → Gr 12 36 (Rat.divInt k (1 + m)) := by
    intro d e hd hde d0 e0 e1
    have : Gr d k.natAbs (Rat.divInt k (1 + m)) := ⟨k, by rw [hd], Nat.le_refl _⟩
    have := this.scale e e0
    rw [hde] at this
    exact this.mono (Nat.le_trans (Nat.mul_le_mul hk e1) (by decide))
  rcases (by omega : m = 0 ∨ m = 1 ∨ m = 2 ∨ m = 3) with rfl | rfl | rfl | rfl
  · exact go 1 12 rfl rfl (by decide) (by decide) (by decide)
  · exact go 2 6 rfl rfl (by decide) (by decide) (by decide)
  · exact go 3 4 rfl rfl (by decide) (by decide) (by decide)
  · exact go 4 3 rfl rfl (by decide) (by decide) (by decide)
theorem t_lratio {W : Ro} {q : Int} (h : WF W) (hq : q = 2 ∨ q = 3) : ∃ W' r, k_f__law_ratio [.row, .int q] W = some (.val (enc r) .sh W') ∧ WF W' ∧ Gr 12 36 r := by
  obtain ⟨W1, k, e1, w1, k0, k1⟩ := t_draw (m := 2 * q + 1) h (by omega) (by omega)
  obtain ⟨W2, m, e2, w2, m0, m1⟩ := t_draw (m := 4) w1 (by omega) (by omega)
  have hl := @t_low (k - q) (1 + m) W2 3 (by omega) (by omega) (by omega) (by omega)
  refine ⟨W2, Rat.divInt (k - q) (1 + m), ?_, w2, gr12 (by omega) m0 m1⟩
  have mu := @mul_ii W 2 q (by rcases hq with rfl | rfl <;> decide)
  simp [k_f__law_ratio, k_g__law_ratio, runDef, env0, mu, e1, e2, hl]
  obtain ⟨_, _, _, _, rfl, _⟩ := h
  rfl
/-! ### sums -/
theorem fold_add : ∀ (l : Row) (a : Rat), l.foldl (· + ·) a = a + l.foldl (· + ·) 0
  | [], a => by simp only [List.foldl_nil]; rw [Rat.add_zero]
  | x :: l, a => by
    simp only [List.foldl_cons]
    rw [fold_add l (a + x), fold_add l (0 + x)]
    grind
theorem sum_front {n : Nat} {f : Nat → Rat} : sumN (n + 1) f = f 0 + sumN n fun i => f (i + 1) := by
  rw [sum_skip (k := 0) (by omega)]
  congr 1
theorem sumL_eq : ∀ {r p : Row}, r.length = p.length → sumL (List.zipWith (· * ·) r p) = sumN r.length fun c => r.getD c 0 * p.getD c 0
  | [], [], _ => rfl
  | x :: r, y :: p, h => by
    have ih := sumL_eq (r := r) (p := p) (by simpa using h)
    unfold sumL at ih ⊢
    rw [List.zipWith_cons_cons, List.foldl_cons, fold_add, ih, List.length_cons, sum_front]
    simp only [List.getD_cons_zero, List.getD_cons_succ]
    grind
theorem sumL_gr {S B : Nat} (hS : S ≠ 0) : ∀ {l : Row}, (∀ x ∈ l, Gr S B x) → Gr S (l.length * B) (sumL l)
  | [], _ => by simpa [sumL] using Gr.zero hS
  | x :: l, h => by
    have ih := sumL_gr hS (l := l) fun y hy => h y (by simp [hy])
    unfold sumL at ih ⊢
    rw [List.foldl_cons, fold_add, Rat.zero_add, List.length_cons, Nat.add_mul, Nat.one_mul, Nat.add_comm]
    exact (h x (by simp)).add hS ih
/-! ### sizes -/
theorem rowZ_of {r : Row} {B : Nat} (hB : B < 2 ^ 18) (h : ∀ x ∈ r, Gr 1728 B x) : RowZ 18 r := by
  refine ⟨1728, by decide, by decide, fun x hx => ?_⟩
  obtain ⟨a, e, ha⟩ := h x hx
  exact ⟨a, e, by omega⟩
theorem mz_exts {A : Mat} {b : Row} {B : Nat} (hB : B < 2 ^ 18) (hB2 : 1728 ≤ B) (hA : ∀ r ∈ A, ∀ x ∈ r, Gr 1728 B x) (hb : ∀ x ∈ b, Gr 1728 B x) : MZ 18 (exts A b) := fun r hr => by
  obtain ⟨k, hk, rfl⟩ := mem_getD hr
  rw [exts_len] at hk
  rw [exts_get hk]
  refine rowZ_of hB fun x hx => ?_
  rw [List.mem_append, List.mem_cons] at hx
  rcases hx with hx | rfl | hx
  · exact hA _ (getD_mem hk) x hx
  · by_cases h : k < b.length
    · exact hb _ (getD_mem' h)
    · rw [List.getD_eq_getElem?_getD, List.getElem?_eq_none (by omega)]
      exact (Gr.zero (by decide)).mono (by omega)
  · unfold unitR at hx
    obtain ⟨j, _, rfl⟩ := List.mem_map.mp hx
    split
    · exact (Gr.one (by decide)).mono hB2
    · exact (Gr.zero (by decide)).mono (by omega)
theorem bn4 {n : Nat} (h : n ≤ 4) : bn n 18 ≤ 303 := Nat.le_trans (bn_le h) (by decide)
/-! ### draws of rows -/
theorem t_drawrow {W : Ro} {vs : List Nat} {t : Nat} {it : SmI} {el : Sm} {ρ : Env'} {l : List D} (h : WF W) (hit : it ρ W = some (.its l W)) (hl : l.length ≤ 1000) (h1 : ((wipeR ρ vs)[1]?) = some (.sh .row)) (ht : t ≠ 1) (he : el = cCall k_f__law_ratio (cCons (cFr (cVar 1)) (cCons (cFr (cC (.int 3))) cNil))) :
    ∃ W' r, cComp vs (.nm t) it (cC (.bl true)) el ρ W = some (.val (encL r) .fr W') ∧ WF W' ∧ r.length = l.length ∧ ∀ x ∈ r, Gr 12 36 x := by
  subst he
  obtain ⟨xs, W', e, w, hx, hp⟩ := @lcN_draw Rat (.nm t) (cCall k_f__law_ratio (cCons (cFr (cVar 1)) (cCons (cFr (cC (.int 3))) cNil))) (wipeR ρ vs) WF (Gr 12 36) enc l W h fun d _ W h => by
    obtain ⟨W1, r, e1, w1, g⟩ := t_lratio (q := 3) h (.inr rfl)
    refine ⟨_, r, .sh, W1, tg_nm, ?_, g, w1⟩
    have h1' : ((wipeR ρ vs).set t (.sh d))[1]? = some (.sh .row) := by rw [List.getElem?_set_ne ht]; exact h1
    rw [ap_fr, ap_call, ap_cons, ap_fr, ap_var, h1']
    simp [e1]
  exact ⟨W', xs, comp_ok hit hl e, w, hx, hp⟩
end Wk

set_option Elab.async false
set_option linter.all false
set_option maxRecDepth 100000
set_option maxHeartbeats 4000000
namespace Wk
open PySem Km
/-- the law's slots -/
def EV (x0 x1 x2 x3 x4 x7 x9 x10 x11 x13 x14 x15 x16 x18 x19 x20 : Sl) : Env' := [x0, x1, x2, x3, x4, .no, .no, x7, .no, x9, x10, x11, .no, x13, x14, x15, x16, .no, x18, x19, x20, .no, .no]
section
variable {W : Ro} {x0 x1 x2 x3 x4 x7 x9 x10 x11 x13 x14 x15 x16 x18 x19 x20 : Sl}
theorem law1 {ns : List Int} : ∃ W, WF W ∧ cMkRow 1 (cLst (cCons (cFr (cVar 0)) (cCons (cFr (cC (.int 0))) (cCons (cFr (cC (.int 7101))) (cCons (cFr (cC (.int 0))) cNil))))) (env0 23 [.scr ns]) none =
    some (.nx (EV (.sh (.scr ns)) (.sh .row) .no .no .no .no .no .no .no .no .no .no .no .no .no .no) W) := by
  refine ⟨some [.scr ns, .int 0, .int 7101, .int 0], ⟨ns, 0, 7101, 0, rfl, by decide, by decide, by decide⟩, ?_⟩
  have e : cLst (cCons (cFr (cVar 0)) (cCons (cFr (cC (.int 0))) (cCons (cFr (cC (.int 7101))) (cCons (cFr (cC (.int 0))) cNil)))) (env0 23 [.scr ns]) none = some (.val (.lst [.scr ns, .int 0, .int 7101, .int 0]) .fr none) := by
    simp [env0, lim]
  unfold cMkRow
  rw [ap_sbind, e]
  rfl
theorem law2 (h : WF W) : ∃ W' m w, WF W' ∧ 1 ≤ m ∧ m ≤ 4 ∧ 1 ≤ w ∧ w ≤ 4 ∧ cPar [2, 3] (cCons (c2 pAdd (cC (.int 1)) (cCall k_f__law_taken (cCons (cFr (cVar 1)) (cCons (cFr (cC (.int 4))) cNil)))) (cCons (c2 pAdd (cC (.int 1)) (cCall k_f__law_taken (cCons (cFr (cVar 1)) (cCons (cFr (cC (.int 4))) cNil)))) cNil)) (EV x0 (.sh .row) x2 x3 x4 x7 x9 x10 x11 x13 x14 x15 x16 x18 x19 x20) W =
    some (.nx (EV x0 (.sh .row) (.sh (.int (m : Nat))) (.sh (.int (w : Nat))) x4 x7 x9 x10 x11 x13 x14 x15 x16 x18 x19 x20) W') := by
  obtain ⟨W1, k, e1, w1, k0, k1⟩ := t_draw (m := 4) h (by omega) (by omega)
  obtain ⟨W2, l, e2, w2, l0, l1⟩ := t_draw (m := 4) w1 (by omega) (by omega)
  refine ⟨W2, (1 + k).toNat, (1 + l).toNat, w2, by omega, by omega, by omega, by omega, ?_⟩
  have h1 : (((1 + k).toNat : Nat) : Int) = 1 + k := by omega
  have h2 : (((1 + l).toNat : Nat) : Int) = 1 + l := by omega
  rw [h1, h2]
  simp [EV, e1, e2, lim]
theorem law3 {m w : Nat} (h : WF W) (hm : m ≤ 4) (hw : w ≤ 4) : ∃ W' A, WF W' ∧ A.length = m ∧ Shp A w ∧ (∀ r ∈ A, ∀ x ∈ r, Gr 12 36 x) ∧
    cAsg 4 (cComp [6] (.nm 6) (cRng1 (cCons (cVar 2) cNil)) (cC (.bl true)) k_e_law_17) (EV x0 (.sh .row) (.sh (.int m)) (.sh (.int w)) x4 x7 x9 x10 x11 x13 x14 x15 x16 x18 x19 x20) W =
    some (.nx (EV x0 (.sh .row) (.sh (.int m)) (.sh (.int w)) (.ow (.lst (A.map encT))) x7 x9 x10 x11 x13 x14 x15 x16 x18 x19 x20) W') := by
  obtain ⟨A, W', e, w', hl, hp⟩ := @lcN_draw Row (.nm 6) k_e_law_17 (EV x0 (.sh .row) (.sh (.int m)) (.sh (.int w)) x4 x7 x9 x10 x11 x13 x14 x15 x16 x18 x19 x20) WF (fun r => r.length = w ∧ ∀ x ∈ r, Gr 12 36 x) encT ((List.range m).map fun (i : Nat) => D.int i) W h fun d _ W h => by
    obtain ⟨W1, r, e1, w1, hr, g⟩ := @t_drawrow W [5] 5 (cRng1 (cCons (cVar 3) cNil)) k_e_law_16 ((EV x0 (.sh .row) (.sh (.int m)) (.sh (.int w)) x4 x7 x9 x10 x11 x13 x14 x15 x16 x18 x19 x20).set 6 (.sh d)) _ h (rng_ok (m := w) (k := .sh) (W' := W) (by simp [EV]) (by omega)) (by simp; omega) (by simp [EV]) (by decide) rfl
    refine ⟨_, r, .sh, W1, tg_nm, ?_, ⟨by simpa using hr, g⟩, w1⟩
    unfold k_e_law_17
    rw [ap_fr, ap_L, ap_cons, e1]
    simp [encL, encT]
  have c := @comp_ok [6] (.nm 6) (cRng1 (cCons (cVar 2) cNil)) (cC (.bl true)) k_e_law_17 (EV x0 (.sh .row) (.sh (.int m)) (.sh (.int w)) x4 x7 x9 x10 x11 x13 x14 x15 x16 x18 x19 x20) W W W' _ _ (rng_ok (m := m) (k := .sh) (W' := W) (by simp [EV]) (by omega)) (by simp; omega) e
  refine ⟨W', A, w', by simpa using hl, fun r hr => (hp r hr).1, fun r hr => (hp r hr).2, ?_⟩
  rw [ap_asg, c]
  rfl
noncomputable def lawS4 : SmS := (cIfS (cAnd (c2 pGt (cVar 2) (cC (.int 1))) (c2 pEqs (cCall k_f__law_taken (cCons (cFr (cVar 1)) (cCons (cFr (cC (.int 2))) cNil))) (cC (.int 0))))
(cSeq (cAsg 7 (cCall k_f__law_ratio (cCons (cFr (cVar 1)) (cCons (cFr (cC (.int 2))) cNil))))
(cSeq (cSetI 4 (cC (.int 0)) (cL pTuple (cCons (cComp [8] (.nm 8) (cSeqI (c2 pIdx (cVar 4) (cC (.int 1)))) (cC (.bl true)) k_e_law_15) cNil)))
cNx))
cNx)
theorem gr144 {x : Rat} (h : Gr 12 36 x) : Gr 144 864 x := (h.scale 12 (by decide)).mono (by decide)
theorem law4 {m w : Nat} {A : Mat} (h : WF W) (hm : m ≤ 4) (hw : w ≤ 4) (hA : A.length = m) (s : Shp A w) (g : ∀ r ∈ A, ∀ x ∈ r, Gr 12 36 x) : ∃ W' B x7', WF W' ∧ B.length = m ∧ Shp B w ∧ (∀ r ∈ B, ∀ x ∈ r, Gr 144 1296 x) ∧
    lawS4 (EV x0 (.sh .row) (.sh (.int m)) (.sh (.int w)) (.ow (.lst (A.map encT))) x7 x9 x10 x11 x13 x14 x15 x16 x18 x19 x20) W =
    some (.nx (EV x0 (.sh .row) (.sh (.int m)) (.sh (.int w)) (.ow (.lst (B.map encT))) x7' x9 x10 x11 x13 x14 x15 x16 x18 x19 x20) W') := by
  have keep : ∀ r ∈ A, ∀ x ∈ r, Gr 144 1296 x := fun r hr x hx => (gr144 (g r hr x hx)).mono (by decide)
  unfold lawS4
  by_cases h1 : 1 < m
  · have h1' : (1 : Int) < (m : Int) := by omega
    obtain ⟨W1, k, e1, w1, k0, k1⟩ := t_draw (m := 2) h (by omega) (by omega)
    have test : cAnd (c2 pGt (cVar 2) (cC (.int 1))) (c2 pEqs (cCall k_f__law_taken (cCons (cFr (cVar 1)) (cCons (cFr (cC (.int 2))) cNil))) (cC (.int 0))) (EV x0 (.sh .row) (.sh (.int m)) (.sh (.int w)) (.ow (.lst (A.map encT))) x7 x9 x10 x11 x13 x14 x15 x16 x18 x19 x20) W = some (.val (.bl (decide (k = 0))) .sh W1) := by
      simp [EV, h1', e1]
    by_cases hk : k = 0
    · obtain ⟨W2, f, e2, w2, gf⟩ := t_lratio (q := 2) w1 (.inl rfl)
      have s7 : cAsg 7 (cCall k_f__law_ratio (cCons (cFr (cVar 1)) (cCons (cFr (cC (.int 2))) cNil))) (EV x0 (.sh .row) (.sh (.int m)) (.sh (.int w)) (.ow (.lst (A.map encT))) x7 x9 x10 x11 x13 x14 x15 x16 x18 x19 x20) W1 = some (.nx (EV x0 (.sh .row) (.sh (.int m)) (.sh (.int w)) (.ow (.lst (A.map encT))) (.sh (enc f)) x9 x10 x11 x13 x14 x15 x16 x18 x19 x20) W2) := by
        simp [EV, e2]
      have r1 := s.get (i := 1) (by omega)
      have it : cSeqI (c2 pIdx (cVar 4) (cC (.int 1))) (EV x0 (.sh .row) (.sh (.int m)) (.sh (.int w)) (.ow (.lst (A.map encT))) (.sh (enc f)) x9 x10 x11 x13 x14 x15 x16 x18 x19 x20) W2 = some (.its ((A.getD 1 []).map enc) W2) := by
        have i1 : pIdx W2 (.lst (A.map encT)) (.int 1) = some (encT (A.getD 1 []), .sh) := by
          rw [idx_lst, at_1, map_get [] (by omega)]; rfl
        rw [ap_seqI, ap_fr, ap_c2, ap_var]
        simp only [EV, List.getElem?_cons_succ, List.getElem?_cons_zero, ap_c, i1, Option.map_some, reduceCtorEq, if_false]
        simp [encT]
      have e := @lcN_map Rat (.nm 8) k_e_law_15 (EV x0 (.sh .row) (.sh (.int m)) (.sh (.int w)) (.ow (.lst (A.map encT))) (.sh (enc f)) x9 x10 x11 x13 x14 x15 x16 x18 x19 x20) W2 enc (fun x => enc (f * x)) (A.getD 1 []) fun x hx => by
        have t := @t_lmul f x W2 6 6 (gf.sz (by decide) (by decide) (by decide)) ((g _ (getD_mem (by omega)) x hx).sz (by decide) (by decide) (by decide)) (by decide)
        exact ⟨_, .sh, tg_nm, by simp [k_e_law_15, EV, t]⟩
      have c := @comp_ok [8] (.nm 8) _ (cC (.bl true)) k_e_law_15 (EV x0 (.sh .row) (.sh (.int m)) (.sh (.int w)) (.ow (.lst (A.map encT))) (.sh (enc f)) x9 x10 x11 x13 x14 x15 x16 x18 x19 x20) W2 W2 W2 _ _ it (by rw [List.length_map, r1]; omega) e
      refine ⟨W2, A.set 0 ((A.getD 1 []).map (f * ·)), .sh (enc f), w2, by simpa using hA, s.set (by rw [List.length_map]; exact r1), fun r hr x hx => ?_, ?_⟩
      · rcases List.mem_or_eq_of_mem_set hr with h2 | h2
        · exact keep r h2 x hx
        · subst h2
          obtain ⟨y, hy, rfl⟩ := List.mem_map.mp hx
          exact gf.mul (g _ (getD_mem (by omega)) y hy)
      · rw [ap_ifs, test]
        simp only [hk, decide_true, if_true]
        rw [seq_nx s7]
        have hs := @setI_ow (EV x0 (.sh .row) (.sh (.int m)) (.sh (.int w)) (.ow (.lst (A.map encT))) (.sh (enc f)) x9 x10 x11 x13 x14 x15 x16 x18 x19 x20) W2 (encT ((A.getD 1 []).map (f * ·))) 4 (A.map encT) 0 rfl (by rw [List.length_map]; omega)
        have tu : cL pTuple (cCons (cComp [8] (.nm 8) (cSeqI (c2 pIdx (cVar 4) (cC (.int 1)))) (cC (.bl true)) k_e_law_15) cNil) (EV x0 (.sh .row) (.sh (.int m)) (.sh (.int w)) (.ow (.lst (A.map encT))) (.sh (enc f)) x9 x10 x11 x13 x14 x15 x16 x18 x19 x20) W2 = some (.val (encT ((A.getD 1 []).map (f * ·))) .sh W2) := by
          rw [ap_L, ap_cons, c]
          simp only [ap_nil, List.map_cons, List.map_nil, tuple_lst, Option.map_some, encT, List.map_map]
          rfl
        rw [ap_seq, ap_setI, tu]
        simp only [reduceCtorEq, if_false, ap_c]
        rw [if_pos (held_ow (d := .lst (A.map encT)) rfl)]
        have hs' : setI 4 (.int 0) (encT ((A.getD 1 []).map (f * ·))) (EV x0 (.sh .row) (.sh (.int m)) (.sh (.int w)) (.ow (.lst (A.map encT))) (.sh (enc f)) x9 x10 x11 x13 x14 x15 x16 x18 x19 x20) W2 = _ := hs
        rw [hs', ← List.map_set]
        rfl
    · refine ⟨W1, A, x7, w1, hA, s, keep, ?_⟩
      rw [ap_ifs, test]
      simp only [hk, decide_false, Bool.false_eq_true, if_false, ap_nx]
  · have h1' : ¬ (1 : Int) < (m : Int) := by omega
    refine ⟨W, A, x7, h, hA, s, keep, ?_⟩
    have test : cAnd (c2 pGt (cVar 2) (cC (.int 1))) (c2 pEqs (cCall k_f__law_taken (cCons (cFr (cVar 1)) (cCons (cFr (cC (.int 2))) cNil))) (cC (.int 0))) (EV x0 (.sh .row) (.sh (.int m)) (.sh (.int w)) (.ow (.lst (A.map encT))) x7 x9 x10 x11 x13 x14 x15 x16 x18 x19 x20) W = some (.val (.bl false) .sh W) := by
      simp [EV, h1']
    rw [ap_ifs, test]
    simp only [Bool.false_eq_true, if_false, ap_nx]
end
end Wk

set_option Elab.async false
set_option linter.all false
set_option maxRecDepth 100000
set_option maxHeartbeats 4000000
namespace Wk
open PySem Km
section
variable {W : Ro} {x0 x1 x2 x3 x4 x7 x9 x10 x11 x13 x14 x15 x16 x18 x19 x20 : Sl} {m w : Nat} {A : Mat} {b p : Row}
theorem cons2 {f g : Sm} {ρ : Env'} {W W1 W2 : Ro} {d e : D} {k k' : Kd} (h1 : f ρ W = some (.val d k W1)) (h2 : g ρ W1 = some (.val e k' W2)) : cCons f (cCons g cNil) ρ W = some (.vals [(d, k), (e, k')] W2) := by
  simp [h1, h2]
theorem law5 (h : WF W) (hw : w ≤ 4) : ∃ (W' : Ro) (p : Row), WF W' ∧ p.length = w ∧ (∀ x ∈ p, Gr 12 36 x) ∧
    cPar [9, 10] (cCons (cL pTuple (cCons (cVar 4) cNil)) (cCons (cComp [5] (.nm 5) (cRng1 (cCons (cVar 3) cNil)) (cC (.bl true)) k_e_law_14) cNil)) (EV x0 (.sh .row) x2 (.sh (.int w)) (.ow (.lst (A.map encT))) x7 x9 x10 x11 x13 x14 x15 x16 x18 x19 x20) W =
    some (.nx (EV x0 (.sh .row) x2 (.sh (.int w)) (.ow (.lst (A.map encT))) x7 (.sh (.tup (A.map encT))) (.ow (.lst (p.map enc))) x11 x13 x14 x15 x16 x18 x19 x20) W') := by
  obtain ⟨W1, p, e1, w1, hp, g⟩ := @t_drawrow W [5] 5 (cRng1 (cCons (cVar 3) cNil)) k_e_law_14 (EV x0 (.sh .row) x2 (.sh (.int w)) (.ow (.lst (A.map encT))) x7 x9 x10 x11 x13 x14 x15 x16 x18 x19 x20) _ h (rng_ok (m := w) (k := .sh) (W' := W) (by simp [EV]) (by omega)) (by simp; omega) (by simp [EV]) (by decide) rfl
  refine ⟨W1, p, w1, by simpa using hp, g, ?_⟩
  have tu : cL pTuple (cCons (cVar 4) cNil) (EV x0 (.sh .row) x2 (.sh (.int w)) (.ow (.lst (A.map encT))) x7 x9 x10 x11 x13 x14 x15 x16 x18 x19 x20) W = some (.val (.tup (A.map encT)) .sh W) := by simp [EV]
  rw [ap_par, cons2 tu e1]
  simp [lim, EV, encL]
theorem sums_gr (hw : w ≤ 4) (s : Shp A w) (gA : ∀ r ∈ A, ∀ x ∈ r, Gr 144 1296 x) (gp : ∀ x ∈ p, Gr 12 36 x) : ∀ x ∈ A.map fun r => sumL (List.zipWith (· * ·) r p), Gr 1728 186624 x := fun x hx => by
  obtain ⟨r, hr, rfl⟩ := List.mem_map.mp hx
  have := @sumL_gr 1728 46656 (by decide) (List.zipWith (· * ·) r p) fun y hy => by
    rw [← List.map_uncurry_zip_eq_zipWith] at hy
    obtain ⟨q, hq, rfl⟩ := List.mem_map.mp hy
    exact (gA r hr _ (List.of_mem_zip hq).1).mul (gp _ (List.of_mem_zip hq).2)
  refine this.mono ?_
  have : (List.zipWith (· * ·) r p).length ≤ 4 := by
    rw [List.length_zipWith, s r hr]; omega
  calc (List.zipWith (· * ·) r p).length * 46656 ≤ 4 * 46656 := Nat.mul_le_mul_right _ this
    _ = 186624 := by decide
noncomputable def lawS6 : SmS := (cShr [10, 4] (cAsg 11 (cL pTuple (cCons (cIf (c2 pEqs (cCall k_f__law_taken (cCons (cFr (cVar 1)) (cCons (cFr (cC (.int 2))) cNil))) (cC (.int 0))) (cCall k_f__law_times (cCons (cFr (cVar 9)) (cCons (cFr (cVar 10)) cNil))) (cComp [12] (.nm 12) (cSeqI (cVar 4)) (cC (.bl true)) k_e_law_13)) cNil))))
theorem law6 (h : WF W) (hm : m ≤ 4) (hw : w ≤ 4) (hA : A.length = m) (s : Shp A w) (gA : ∀ r ∈ A, ∀ x ∈ r, Gr 144 1296 x) (hp : p.length = w) (gp : ∀ x ∈ p, Gr 12 36 x) : ∃ (W' : Ro) (b : Row), WF W' ∧ b.length = m ∧ (∀ x ∈ b, Gr 1728 186624 x) ∧
    lawS6 (EV x0 (.sh .row) x2 x3 (.ow (.lst (A.map encT))) x7 (.sh (.tup (A.map encT))) (.ow (.lst (p.map enc))) x11 x13 x14 x15 x16 x18 x19 x20) W =
    some (.nx (EV x0 (.sh .row) x2 x3 (.sh (.lst (A.map encT))) x7 (.sh (.tup (A.map encT))) (.sh (.lst (p.map enc))) (.sh (.tup (b.map enc))) x13 x14 x15 x16 x18 x19 x20) W') := by
  obtain ⟨W1, k, e1, w1, k0, k1⟩ := t_draw (m := 2) h (by omega) (by omega)
  have env : shareAll [10, 4] (EV x0 (.sh .row) x2 x3 (.ow (.lst (A.map encT))) x7 (.sh (.tup (A.map encT))) (.ow (.lst (p.map enc))) x11 x13 x14 x15 x16 x18 x19 x20) = EV x0 (.sh .row) x2 x3 (.sh (.lst (A.map encT))) x7 (.sh (.tup (A.map encT))) (.sh (.lst (p.map enc))) x11 x13 x14 x15 x16 x18 x19 x20 := rfl
  unfold lawS6
  rw [ap_shr, env]
  have test : c2 pEqs (cCall k_f__law_taken (cCons (cFr (cVar 1)) (cCons (cFr (cC (.int 2))) cNil))) (cC (.int 0)) (EV x0 (.sh .row) x2 x3 (.sh (.lst (A.map encT))) x7 (.sh (.tup (A.map encT))) (.sh (.lst (p.map enc))) x11 x13 x14 x15 x16 x18 x19 x20) W = some (.val (.bl (decide (k = 0))) .sh W1) := by
    simp [EV, e1]
  by_cases hk : k = 0
  · have t := @t_ltimes A p w 11 6 W1 (.tup (A.map encT)) (.lst (p.map enc)) rfl rfl s (fun r hr x hx => (gA r hr x hx).sz (by decide) (by decide) (by decide)) (fun x hx => (gp x hx).sz (by decide) (by decide) (by decide)) (by omega) (by decide) (by omega) (by omega)
    refine ⟨W1, A.map fun r => sumL (List.zipWith (· * ·) r p), w1, by simpa using hA, sums_gr hw s gA gp, ?_⟩
    rw [ap_asg, ap_L, ap_cons, ap_if, test]
    simp only [hk, decide_true]
    have hc : cCall k_f__law_times (cCons (cFr (cVar 9)) (cCons (cFr (cVar 10)) cNil)) (EV x0 (.sh .row) x2 x3 (.sh (.lst (A.map encT))) x7 (.sh (.tup (A.map encT))) (.sh (.lst (p.map enc))) x11 x13 x14 x15 x16 x18 x19 x20) W1 = some (.val (.lst ((A.map fun r => sumL (List.zipWith (· * ·) r p)).map enc)) .fr W1) := by
      simp [EV, t, -List.map_map]
    rw [hc]
    simp only [ap_nil, List.map_cons, List.map_nil, tuple_lst, Option.map_some]
    rfl
  · obtain ⟨W2, b, e2, w2, hb, g⟩ := @t_drawrow W1 [12] 12 (cSeqI (cVar 4)) k_e_law_13 (EV x0 (.sh .row) x2 x3 (.sh (.lst (A.map encT))) x7 (.sh (.tup (A.map encT))) (.sh (.lst (p.map enc))) x11 x13 x14 x15 x16 x18 x19 x20) (A.map encT) w1 (by simp [EV]) (by rw [List.length_map]; omega) (by simp [EV]) (by decide) rfl
    refine ⟨W2, b, w2, by rw [hb, List.length_map, hA], fun x hx => (((g x hx).scale 144 (by decide)).mono (by decide)), ?_⟩
    rw [ap_asg, ap_L, ap_cons, ap_if, test]
    simp only [hk, decide_false]
    rw [e2]
    simp only [ap_nil, List.map_cons, List.map_nil, tuple_lst, Option.map_some, encL]
    rfl
theorem gr1728 {x : Rat} (h : Gr 144 1296 x) : Gr 1728 186624 x := (h.scale 12 (by decide)).mono (by decide)
theorem mzA (hA : ∀ r ∈ A, ∀ x ∈ r, Gr 1728 186624 x) : MZ 18 A := fun r hr => rowZ_of (by decide) (hA r hr)
/-- what solved tells -/
structure Told (A : Mat) (b : Row) (w : Nat) (R : Mat × List Nat) (t : Str) (v : Row) : Prop where
  ok : (t = "none" ∧ ∃ i, R.2.length ≤ i ∧ i < R.1.length ∧ ent R.1 i w ≠ 0 ∧ v = (R.1.getD i []).drop (w + 1)) ∨
    (t = (if R.2.length = w then ("one" : Str) else ("many" : Str)) ∧ (∀ i, R.2.length ≤ i → i < R.1.length → ent R.1 i w = 0) ∧ v.length = w ∧ ∀ c, c < w → v.getD c 0 = pick R.2.length R.2 (fun j => ent R.1 j w) c)
theorem law7 (hm1 : 1 ≤ m) (hm : m ≤ 4) (hw1 : 1 ≤ w) (hw : w ≤ 4) (hA : A.length = m) (s : Shp A w) (gA : ∀ r ∈ A, ∀ x ∈ r, Gr 144 1296 x) (hb : b.length = m) (gb : ∀ x ∈ b, Gr 1728 186624 x) : ∃ (t : Str) (v : Row), Told A b w (Km.run (List.range w) (exts A b) []) t v ∧
    cPar [13, 14] (cCons (cCall k_f_solved (cCons (cFr (cVar 9)) (cCons (cFr (cVar 11)) cNil))) (cCons (cCall k_f_rank (cCons (cFr (cVar 9)) cNil)) cNil)) (EV x0 x1 x2 x3 x4 x7 (.sh (.tup (A.map encT))) x10 (.sh (.tup (b.map enc))) x13 x14 x15 x16 x18 x19 x20) W =
    some (.nx (EV x0 x1 x2 x3 x4 x7 (.sh (.tup (A.map encT))) x10 (.sh (.tup (b.map enc))) (.sh (.tup [.str t, encT v])) (.sh (.int (Km.run (List.range w) (exts A b) []).2.length)) x15 x16 x18 x19 x20) W) := by
  have gA' : ∀ r ∈ A, ∀ x ∈ r, Gr 1728 186624 x := fun r hr x hx => gr1728 (gA r hr x hx)
  have hb4 : 3 * bn w 18 ≤ 8000 := by have := bn4 hw; omega
  have rk := @t_rank A W w 18 s (mzA gA') (by omega) hw1 (by omega) (by omega) hb4
  rw [exts_cols (b := b) s] at rk
  have so := @t_solution A b W w 18 (.tup (b.map enc)) s rfl (by omega) (by omega) (by omega) (by omega) (mz_exts (by decide) (by decide) gA' gb) hb4 _ rfl
  rcases so with ⟨i, h1, h2, h3, e⟩ | ⟨h1, v, hv, hp, e⟩
  · have e' := @t_solved A b W w _ s (by omega) (by omega) (by omega) hw1 (by omega) e
    exact ⟨"none", _, ⟨.inl ⟨rfl, i, h1, h2, h3, rfl⟩⟩, by simp [EV, e', rk, lim]⟩
  · have e' := @t_solved A b W w _ s (by omega) (by omega) (by omega) hw1 (by omega) e
    exact ⟨_, v, ⟨.inr ⟨rfl, h1, hv, hp⟩⟩, by simp [EV, e', rk, lim]⟩
theorem law8 {r : Nat} (h1 : r ≤ m) (h2 : r ≤ w) : cIfS (cOr (cL pIsi (cCons (cVar 14) (cCons (cC (.ty "bool")) cNil))) (cOr (cNot (cL pIsi (cCons (cVar 14) (cCons (cC (.ty "int")) cNil)))) (cNot (cChain pLe pLe (cC (.int 0)) (cVar 14) (cL pMin (cCons (cVar 2) (cCons (cVar 3) cNil))))))) (cSeq (cRet (cC (.bl false))) cNx) cNx
    (EV x0 x1 (.sh (.int m)) (.sh (.int w)) x4 x7 x9 x10 x11 x13 (.sh (.int r)) x15 x16 x18 x19 x20) W = some (.nx (EV x0 x1 (.sh (.int m)) (.sh (.int w)) x4 x7 x9 x10 x11 x13 (.sh (.int r)) x15 x16 x18 x19 x20) W) := by
  have q : (r : Int) ≤ if (w : Int) < (m : Int) then (w : Int) else (m : Int) := by split <;> omega
  have q0 : (0 : Int) ≤ (r : Int) := by omega
  have test : cOr (cL pIsi (cCons (cVar 14) (cCons (cC (.ty "bool")) cNil))) (cOr (cNot (cL pIsi (cCons (cVar 14) (cCons (cC (.ty "int")) cNil)))) (cNot (cChain pLe pLe (cC (.int 0)) (cVar 14) (cL pMin (cCons (cVar 2) (cCons (cVar 3) cNil)))))) (EV x0 x1 (.sh (.int m)) (.sh (.int w)) x4 x7 x9 x10 x11 x13 (.sh (.int r)) x15 x16 x18 x19 x20) W = some (.val (.bl false) .sh W) := by
    have c1 : cL pIsi (cCons (cVar 14) (cCons (cC (.ty "bool")) cNil)) (EV x0 x1 (.sh (.int m)) (.sh (.int w)) x4 x7 x9 x10 x11 x13 (.sh (.int r)) x15 x16 x18 x19 x20) W = some (.val (.bl false) .sh W) := by simp [EV, pIsi, tyN, isiB]
    have c2 : cL pIsi (cCons (cVar 14) (cCons (cC (.ty "int")) cNil)) (EV x0 x1 (.sh (.int m)) (.sh (.int w)) x4 x7 x9 x10 x11 x13 (.sh (.int r)) x15 x16 x18 x19 x20) W = some (.val (.bl true) .sh W) := by simp [EV, pIsi, tyN, isiB]
    have c3 : cChain pLe pLe (cC (.int 0)) (cVar 14) (cL pMin (cCons (cVar 2) (cCons (cVar 3) cNil))) (EV x0 x1 (.sh (.int m)) (.sh (.int w)) x4 x7 x9 x10 x11 x13 (.sh (.int r)) x15 x16 x18 x19 x20) W = some (.val (.bl true) .sh W) := by
      have i1 : cVar 14 (EV x0 x1 (.sh (.int m)) (.sh (.int w)) x4 x7 x9 x10 x11 x13 (.sh (.int r)) x15 x16 x18 x19 x20) W = some (.val (.int r) .sh W) := rfl
      have i2 : cL pMin (cCons (cVar 2) (cCons (cVar 3) cNil)) (EV x0 x1 (.sh (.int m)) (.sh (.int w)) x4 x7 x9 x10 x11 x13 (.sh (.int r)) x15 x16 x18 x19 x20) W = some (.val (.int (if (w : Int) < (m : Int) then (w : Int) else (m : Int))) .sh W) := by
        simp [EV]
      unfold cChain
      simp [i1, i2, -ap_var, -ap_L]
      split <;> omega
    rw [ap_or, c1]
    simp only
    rw [ap_or, ap_not, c2]
    simp only [Bool.not_true]
    rw [ap_not, c3]
    simp only [Bool.not_true]
  rw [ap_ifs, test]
  simp only [Bool.false_eq_true, if_false, ap_nx]
end
end Wk

set_option Elab.async false
set_option linter.all false
set_option maxRecDepth 100000
set_option maxHeartbeats 4000000
namespace Wk
open PySem Km
def col (A : Mat) (c : Nat) : Row := A.map fun r => r.getD c 0
def turn (A : Mat) (w : Nat) : Mat := (List.range w).map (col A)
theorem col_len {A : Mat} {c : Nat} : (col A c).length = A.length := by simp [col]
theorem col_get {A : Mat} {c k : Nat} : (col A c).getD k 0 = ent A k c := by
  unfold col ent
  simp only [List.getD_eq_getElem?_getD, List.getElem?_map]
  cases A[k]? <;> simp
theorem turn_len {A : Mat} {w : Nat} : (turn A w).length = w := by simp [turn]
theorem turn_shp {A : Mat} {w : Nat} : Shp (turn A w) A.length := fun r hr => by
  unfold turn at hr
  obtain ⟨c, _, rfl⟩ := List.mem_map.mp hr
  exact col_len
theorem turn_ent {A : Mat} {w c k : Nat} (hc : c < w) : ent (turn A w) c k = ent A k c := by
  rw [← col_get (A := A)]
  unfold ent turn
  simp only [List.getD_eq_getElem?_getD, List.getElem?_map, List.getElem?_range hc]
  rfl
theorem turn_mem {A : Mat} {w : Nat} {P : Rat → Prop} (s : Shp A w) (h : ∀ r ∈ A, ∀ x ∈ r, P x) : ∀ r ∈ turn A w, ∀ x ∈ r, P x := fun r hr x hx => by
  unfold turn at hr
  obtain ⟨c, hc, rfl⟩ := List.mem_map.mp hr
  unfold col at hx
  obtain ⟨q, hq, rfl⟩ := List.mem_map.mp hx
  exact h q hq _ (getD_mem' (by rw [s q hq]; simpa using hc))
section
variable {W : Ro} {x0 x1 x2 x3 x4 x7 x9 x10 x11 x13 x14 x15 x16 x18 x19 x20 : Sl} {m w : Nat} {A : Mat} {b p : Row}
theorem law_turn (hm : m ≤ 4) (hw : w ≤ 4) (hA : A.length = m) (s : Shp A w) : cComp [16] (.nm 16) (cRng1 (cCons (cVar 3) cNil)) (cC (.bl true)) k_e_law_12 (EV x0 x1 x2 (.sh (.int w)) (.sh (.lst (A.map encT))) x7 x9 x10 x11 x13 x14 x15 x16 x18 x19 x20) W = some (.val (.lst ((turn A w).map encT)) .fr W) := by
  have e := @lcN_map Nat (.nm 16) k_e_law_12 (EV x0 x1 x2 (.sh (.int w)) (.sh (.lst (A.map encT))) x7 x9 x10 x11 x13 x14 x15 .no x18 x19 x20) W (fun (i : Nat) => D.int i) (fun c => encT (col A c)) (List.range w) fun c hc => by
    have hc : c < w := by simpa using hc
    refine ⟨EV x0 x1 x2 (.sh (.int w)) (.sh (.lst (A.map encT))) x7 x9 x10 x11 x13 x14 x15 (.sh (.int c)) x18 x19 x20, .sh, tg_nm, ?_⟩
    have e1 := @lcN_map Row (.nm 12) k_e_law_11 (EV x0 x1 x2 (.sh (.int w)) (.sh (.lst (A.map encT))) x7 x9 x10 x11 x13 x14 x15 (.sh (.int c)) x18 x19 x20) W encT (fun r => enc (r.getD c 0)) A fun r hr => by
      have i1 : pIdx W (encT r) (.int c) = some (enc (r.getD c 0), .sh) := by
        unfold encT
        rw [idx_tup, at_nat, map_get 0 (by rw [s r hr]; exact hc)]; rfl
      exact ⟨_, .sh, tg_nm, by simp [k_e_law_11, EV, i1, -List.getD_eq_getElem?_getD]⟩
    have c1 := @comp_ok [12] (.nm 12) (cSeqI (cVar 4)) (cC (.bl true)) k_e_law_11 (EV x0 x1 x2 (.sh (.int w)) (.sh (.lst (A.map encT))) x7 x9 x10 x11 x13 x14 x15 (.sh (.int c)) x18 x19 x20) W W W _ _ (by simp [EV]) (by rw [List.length_map]; omega) e1
    unfold k_e_law_12
    rw [ap_fr, ap_L, ap_cons, c1]
    simp only [ap_nil, List.map_cons, List.map_nil, tuple_lst, Option.map_some, reduceCtorEq, if_false]
    unfold encT col
    rw [List.map_map]
    rfl
  have c := @comp_ok [16] (.nm 16) (cRng1 (cCons (cVar 3) cNil)) (cC (.bl true)) k_e_law_12 (EV x0 x1 x2 (.sh (.int w)) (.sh (.lst (A.map encT))) x7 x9 x10 x11 x13 x14 x15 x16 x18 x19 x20) W W W _ _ (rng_ok (m := w) (k := .sh) (W' := W) (by simp [EV]) (by omega)) (by simp; omega) e
  rw [c]
  unfold turn
  rw [List.map_map]
  rfl
noncomputable def lawS10 : SmS := (cShr [4] (cIfS (c2 pNes (cCall k_f_rank (cCons (cFr (cL pTuple (cCons (cComp [16] (.nm 16) (cRng1 (cCons (cVar 3) cNil)) (cC (.bl true)) k_e_law_7) cNil))) cNil)) (cVar 14))
(cSeq (cRet (cC (.bl false)))
cNx)
cNx))
theorem law10 (hm1 : 1 ≤ m) (hm : m ≤ 4) (hw1 : 1 ≤ w) (hw : w ≤ 4) (hA : A.length = m) (s : Shp A w) (gA : ∀ r ∈ A, ∀ x ∈ r, Gr 144 1296 x) :
    lawS10 (EV x0 x1 x2 (.sh (.int w)) (.sh (.lst (A.map encT))) x7 x9 x10 x11 x13 (.sh (.int (Km.run (List.range w) A []).2.length)) x15 x16 x18 x19 x20) W = some (.nx (EV x0 x1 x2 (.sh (.int w)) (.sh (.lst (A.map encT))) x7 x9 x10 x11 x13 (.sh (.int (Km.run (List.range w) A []).2.length)) x15 x16 x18 x19 x20) W) := by
  have gT := turn_mem s fun r hr x hx => gr1728 (gA r hr x hx)
  have sT := @turn_shp A w
  rw [hA] at sT
  have rk := @t_rank (turn A w) W m 18 sT (mzA gT) (by rw [turn_len]; exact hw1) hm1 (by omega) (by rw [turn_len]; omega) (by have := bn4 hm; omega)
  rw [turned s sT hA turn_len fun i c hi hc => turn_ent hc] at rk
  unfold lawS10
  rw [ap_shr]
  rw [show shareAll [4] (EV x0 x1 x2 (.sh (.int w)) (.sh (.lst (A.map encT))) x7 x9 x10 x11 x13 (.sh (.int (Km.run (List.range w) A []).2.length)) x15 x16 x18 x19 x20) = EV x0 x1 x2 (.sh (.int w)) (.sh (.lst (A.map encT))) x7 x9 x10 x11 x13 (.sh (.int (Km.run (List.range w) A []).2.length)) x15 x16 x18 x19 x20 from rfl]
  have tu : cFr (cL pTuple (cCons (cComp [16] (.nm 16) (cRng1 (cCons (cVar 3) cNil)) (cC (.bl true)) k_e_law_7) cNil)) (EV x0 x1 x2 (.sh (.int w)) (.sh (.lst (A.map encT))) x7 x9 x10 x11 x13 (.sh (.int (Km.run (List.range w) A []).2.length)) x15 x16 x18 x19 x20) W = some (.val (.tup ((turn A w).map encT)) .sh W) := by
    have := @law_turn W x0 x1 x2 x7 x9 x10 x11 x13 (.sh (.int (Km.run (List.range w) A []).2.length)) x15 x16 x18 x19 x20 m w A hm hw hA s
    rw [show k_e_law_12 = k_e_law_7 from rfl] at this
    rw [ap_fr, ap_L, ap_cons, this]
    simp only [ap_nil, List.map_cons, List.map_nil, tuple_lst, Option.map_some, reduceCtorEq, if_false]
  have test : c2 pNes (cCall k_f_rank (cCons (cFr (cL pTuple (cCons (cComp [16] (.nm 16) (cRng1 (cCons (cVar 3) cNil)) (cC (.bl true)) k_e_law_7) cNil))) cNil)) (cVar 14) (EV x0 x1 x2 (.sh (.int w)) (.sh (.lst (A.map encT))) x7 x9 x10 x11 x13 (.sh (.int (Km.run (List.range w) A []).2.length)) x15 x16 x18 x19 x20) W = some (.val (.bl false) .sh W) := by
    rw [ap_c2, ap_call, ap_cons, tu]
    simp only [ap_nil, shs_cons, shs_nil, Option.map_some]
    rw [rk]
    simp [EV]
  rw [ap_ifs, test]
  simp only [Bool.false_eq_true, if_false, ap_nx]
end
end Wk

set_option Elab.async false
set_option linter.all false
set_option maxRecDepth 100000
set_option maxHeartbeats 4000000
namespace Wk
open PySem Km
theorem getD_drop {r : Row} {n k : Nat} : (r.drop n).getD k 0 = r.getD (n + k) 0 := by
  simp only [List.getD_eq_getElem?_getD, List.getElem?_drop]
theorem dot_sum {r p : Row} {n : Nat} (hr : r.length = n) (hp : p.length = n) : sumL (List.zipWith (· * ·) r p) = sumN n fun c => r.getD c 0 * p.getD c 0 := by
  rw [sumL_eq (by rw [hr, hp]), hr]
section
variable {A : Mat} {b v : Row} {m w : Nat}
theorem rowsSz (hm : m ≤ 4) (hw : w ≤ 4) (hA : A.length = m) (s : Shp A w) (gA : ∀ r ∈ A, ∀ x ∈ r, Gr 1728 186624 x) (gb : ∀ x ∈ b, Gr 1728 186624 x) : ∀ r ∈ (Km.run (List.range w) (exts A b) []).1, SzR 303 r := fun r hr x hx => by
  have z := (mz_exts (by decide) (by decide) gA gb).run (exts_shp s) (n := w) (k := w) (Nat.le_refl _) (by omega)
  exact ((z r hr).sz x hx).mono (bn4 hw)
/-- the certificate: nothing of a row, something of the right sides -/
theorem cert (hA : A.length = m) (s : Shp A w) {i : Nat} {R : Mat × List Nat} (hR : R = Km.run (List.range w) (exts A b) []) (h1 : R.2.length ≤ i) (h2 : i < R.1.length) (h3 : ent R.1 i w ≠ 0) (hv : v = (R.1.getD i []).drop (w + 1)) (hb : b.length = m) :
    v.length = m ∧ v ∈ [v] ∧ (∀ c, c < w → sumL (List.zipWith (· * ·) (col A c) v) = 0) ∧ sumL (List.zipWith (· * ·) v b) ≠ 0 := by
  have o := run_all (n := w) (exts_shp (b := b) s)
  rw [← hR] at o
  have lv : v.length = m := by rw [hv, List.length_drop, o.shp.get h2]; omega
  have gv : ∀ k, v.getD k 0 = ent R.1 i (w + 1 + k) := fun k => by rw [hv, getD_drop]; rfl
  have hi : i < (exts A b).length := by rw [← o.len]; exact h2
  have tl := fun c => told (c := c) o (v := w + 1) (fun i k hi hk => exts_u s (by rwa [exts_len] at hi) (by rwa [exts_len] at hk)) hi
  refine ⟨lv, by simp, fun c hc => ?_, ?_⟩
  · have := tl c
    rw [o.red.nul i h1 h2 c hc, exts_len, hA] at this
    rw [dot_sum (n := m) (by rw [col_len, hA]) lv]
    refine Eq.trans (sum_congr fun k hk => ?_) this.symm
    rw [col_get, gv, exts_a s (by omega) hc, Rat.mul_comm]
  · have := tl w
    rw [exts_len, hA] at this
    rw [dot_sum (n := m) lv hb, sum_congr (g := fun k => ent R.1 i (w + 1 + k) * ent (exts A b) k w) fun k hk => by rw [gv, exts_b s (by omega)], ← this]
    exact h3
theorem pick_one {k : Nat} {cs : List Nat} {f : Nat → Rat} {c : Nat} (hm : ∀ i j, i < j → j < k → cs.getD i 0 < cs.getD j 0) : pick k cs f c = 0 ∨ ∃ j, j < k ∧ pick k cs f c = f j := by
  induction k with
  | zero => exact .inl rfl
  | succ k ih =>
    rw [pick_succ]
    by_cases h : c = cs.getD k 0
    · subst h
      rw [pick_new fun i hi => hm i k hi (by omega), if_pos rfl, Rat.zero_add]
      exact .inr ⟨k, by omega, rfl⟩
    · rw [if_neg h, Rat.add_zero]
      rcases ih fun i j h1 h2 => hm i j h1 (by omega) with e | ⟨j, hj, e⟩
      · exact .inl e
      · exact .inr ⟨j, by omega, e⟩
/-- a solution -/
theorem solved_ok (hA : A.length = m) (s : Shp A w) {R : Mat × List Nat} (hR : R = Km.run (List.range w) (exts A b) []) (h1 : ∀ i, R.2.length ≤ i → i < R.1.length → ent R.1 i w = 0) (hv : v.length = w) (hp : ∀ c, c < w → v.getD c 0 = pick R.2.length R.2 (fun j => ent R.1 j w) c) (hb : b.length = m) :
    (A.map fun r => sumL (List.zipWith (· * ·) r v)) = b := by
  have o := run_all (n := w) (exts_shp (b := b) s)
  rw [← hR] at o
  apply List.ext_getElem
  · rw [List.length_map, hA, hb]
  · intro i g1 g2
    have hi : i < A.length := by omega
    rw [List.getElem_map, dot_sum (n := w) (s _ (List.getElem_mem hi)) hv]
    have e := solves o h1 (i := i) (by rw [exts_len]; exact hi)
    rw [exts_b s hi] at e
    have eb : b.getD i 0 = b[i] := by rw [List.getD_eq_getElem?_getD, List.getElem?_eq_getElem g2]; rfl
    rw [← eb, ← e]
    refine sum_congr fun c hc => ?_
    rw [hp c hc, exts_a s hi hc]
    congr 1
    unfold ent
    rw [List.getD_eq_getElem?_getD (l := A), List.getElem?_eq_getElem hi]
    rfl
theorem solvedSz (hm : m ≤ 4) (hw : w ≤ 4) (hA : A.length = m) (s : Shp A w) (gA : ∀ r ∈ A, ∀ x ∈ r, Gr 1728 186624 x) (gb : ∀ x ∈ b, Gr 1728 186624 x) {R : Mat × List Nat} (hR : R = Km.run (List.range w) (exts A b) []) (hv : v.length = w) (hp : ∀ c, c < w → v.getD c 0 = pick R.2.length R.2 (fun j => ent R.1 j w) c) : SzR 303 v := fun x hx => by
  have o := run_all (n := w) (exts_shp (b := b) s)
  have z := rowsSz hm hw hA s gA gb
  rw [← hR] at o z
  obtain ⟨c, hc, e⟩ := List.getElem_of_mem hx
  have ec : v.getD c 0 = x := by rw [List.getD_eq_getElem?_getD, List.getElem?_eq_getElem hc]; exact e
  rw [← ec, hp c (by omega)]
  rcases pick_one (f := fun j => ent R.1 j w) (c := c) o.red.mono with e | ⟨j, hj, e⟩
  · rw [e]; exact sz0 (by decide)
  · rw [e]
    have hj2 : j < R.1.length := by have := o.red.le; omega
    exact z _ (getD_mem hj2) _ (getD_mem' (by rw [o.shp.get hj2]; omega))
end
end Wk

set_option Elab.async false
set_option linter.all false
set_option maxRecDepth 100000
set_option maxHeartbeats 4000000
namespace Wk
open PySem Km
theorem s_nn : eqD false (.str "none") (.str "none") = some true := by decide +kernel
theorem s_on : eqD false (.str "one") (.str "none") = some false := by decide +kernel
theorem s_mn : eqD false (.str "many") (.str "none") = some false := by decide +kernel
theorem s_oo : eqD true (.str "one") (.str "one") = some false := by decide +kernel
theorem s_mm : eqD true (.str "many") (.str "many") = some false := by decide +kernel
noncomputable def lawS9a : SmS := (cSeq (cShr [4] (cAsg 15 (cCall k_f__law_times (cCons (cFr (cComp [16] (.nm 16) (cRng1 (cCons (cVar 3) cNil)) (cC (.bl true)) k_e_law_12)) (cCons (cFr (c2 pIdx (cVar 13) (cC (.int 1)))) cNil)))))
(cSeq (cShr [15] (cIfS (cOr (c2 pNes (cComp [8] (.nm 8) (cSeqI (cVar 15)) k_c_law_9 k_e_law_10) (cLst cNil)) (c2 pNes (cL pLen (cCons (c2 pIdx (cVar 13) (cC (.int 1))) cNil)) (cVar 2)))
(cSeq (cRet (cC (.bl false)))
cNx)
cNx))
(cSeq (cIfS (c2 pEqs (c2 pIdx (cCall k_f__law_total (cCons (cFr (cComp [8, 17] (.tp [(.nm 8), (.nm 17)]) (cZip (cCons (cFr (c2 pIdx (cVar 13) (cC (.int 1)))) (cCons (cFr (cVar 11)) cNil))) (cC (.bl true)) k_e_law_8)) cNil)) (cC (.int 0))) (cC (.int 0)))
(cSeq (cRet (cC (.bl false)))
cNx)
cNx)
cNx)))
section
variable {W : Ro} {x0 x1 x2 x3 x4 x7 x9 x10 x11 x13 x14 x15 x16 x18 x19 x20 : Sl} {m w : Nat} {A : Mat} {b v : Row}
theorem idx_told {t : Str} {v : Row} : pIdx W (.tup [.str t, encT v]) (.int 1) = some (encT v, .sh) := by simp
theorem law9a (hm : m ≤ 4) (hw : w ≤ 4) (hA : A.length = m) (s : Shp A w) (gA : ∀ r ∈ A, ∀ x ∈ r, Gr 144 1296 x) (hb : b.length = m) (gb : ∀ x ∈ b, Gr 1728 186624 x) (hv : v.length = m) (zv : SzR 303 v) (h0 : ∀ c, c < w → sumL (List.zipWith (· * ·) (col A c) v) = 0) (h1 : sumL (List.zipWith (· * ·) v b) ≠ 0) :
    ∃ x15', lawS9a (EV x0 x1 (.sh (.int m)) (.sh (.int w)) (.sh (.lst (A.map encT))) x7 x9 x10 (.sh (.tup (b.map enc))) (.sh (.tup [.str "none", encT v])) x14 x15 x16 x18 x19 x20) W = some (.nx (EV x0 x1 (.sh (.int m)) (.sh (.int w)) (.sh (.lst (A.map encT))) x7 x9 x10 (.sh (.tup (b.map enc))) (.sh (.tup [.str "none", encT v])) x14 x15' x16 x18 x19 x20) W) := by
  have gT := turn_mem s gA
  have sT := @turn_shp A w
  rw [hA] at sT
  have t := @t_ltimes (turn A w) v m 11 303 W (.lst ((turn A w).map encT)) (encT v) rfl rfl sT (fun r hr x hx => (gT r hr x hx).sz (by decide) (by decide) (by decide)) zv (by omega) (by decide) (by omega) (by rw [turn_len]; omega)
  have zero : (turn A w).map (fun r => sumL (List.zipWith (· * ·) r v)) = List.replicate w 0 := by
    unfold turn
    rw [List.map_map]
    apply List.ext_getElem
    · simp
    · intro i g1 g2
      have hi : i < w := by simpa using g2
      simpa using h0 i hi
  rw [zero] at t
  refine ⟨.sh (.lst ((List.replicate w (0 : Rat)).map enc)), ?_⟩
  -- the sums
  have env0 : ∀ y15, shareAll [4] (EV x0 x1 (.sh (.int m)) (.sh (.int w)) (.sh (.lst (A.map encT))) x7 x9 x10 (.sh (.tup (b.map enc))) (.sh (.tup [.str "none", encT v])) x14 y15 x16 x18 x19 x20) = EV x0 x1 (.sh (.int m)) (.sh (.int w)) (.sh (.lst (A.map encT))) x7 x9 x10 (.sh (.tup (b.map enc))) (.sh (.tup [.str "none", encT v])) x14 y15 x16 x18 x19 x20 := fun _ => rfl
  have a1 : cFr (cComp [16] (.nm 16) (cRng1 (cCons (cVar 3) cNil)) (cC (.bl true)) k_e_law_12) (EV x0 x1 (.sh (.int m)) (.sh (.int w)) (.sh (.lst (A.map encT))) x7 x9 x10 (.sh (.tup (b.map enc))) (.sh (.tup [.str "none", encT v])) x14 x15 x16 x18 x19 x20) W = some (.val (.lst ((turn A w).map encT)) .sh W) := by
    rw [ap_fr, law_turn hm hw hA s]
    simp
  have a2 : ∀ y15, cFr (c2 pIdx (cVar 13) (cC (.int 1))) (EV x0 x1 (.sh (.int m)) (.sh (.int w)) (.sh (.lst (A.map encT))) x7 x9 x10 (.sh (.tup (b.map enc))) (.sh (.tup [.str "none", encT v])) x14 y15 x16 x18 x19 x20) W = some (.val (encT v) .sh W) := by
    intro y15
    simp [EV]
  unfold lawS9a
  rw [seq_nx (ρ' := EV x0 x1 (.sh (.int m)) (.sh (.int w)) (.sh (.lst (A.map encT))) x7 x9 x10 (.sh (.tup (b.map enc))) (.sh (.tup [.str "none", encT v])) x14 (.ow (.lst ((List.replicate w (0 : Rat)).map enc))) x16 x18 x19 x20) (W' := W) (by
    rw [ap_shr, env0, ap_asg, ap_call, cons2 a1 (a2 _)]
    simp only [shs_cons, shs_nil, Option.map_some]
    rw [t]
    rfl)]
  -- no sum but nought
  have e := @lcN_filter Rat (.nm 8) k_e_law_10 k_c_law_9 (EV x0 x1 (.sh (.int m)) (.sh (.int w)) (.sh (.lst (A.map encT))) x7 x9 x10 (.sh (.tup (b.map enc))) (.sh (.tup [.str "none", encT v])) x14 (.sh (.lst ((List.replicate w (0 : Rat)).map enc))) x16 x18 x19 x20) W enc enc (fun x => !decide (x = 0)) (List.replicate w 0) fun x hx => by
    refine ⟨_, .sh, .sh, tg_nm, ?_, ?_⟩
    · have tp : cTup (cCons (cFr (cC (.int 0))) (cCons (cFr (cC (.int 1))) cNil)) ((EV x0 x1 (.sh (.int m)) (.sh (.int w)) (.sh (.lst (A.map encT))) x7 x9 x10 (.sh (.tup (b.map enc))) (.sh (.tup [.str "none", encT v])) x14 (.sh (.lst ((List.replicate w (0 : Rat)).map enc))) x16 x18 x19 x20).set 8 (.sh (enc x))) W = some (.val (enc 0) .sh W) := by simp [lim, enc0]
      have vr : cVar 8 ((EV x0 x1 (.sh (.int m)) (.sh (.int w)) (.sh (.lst (A.map encT))) x7 x9 x10 (.sh (.tup (b.map enc))) (.sh (.tup [.str "none", encT v])) x14 (.sh (.lst ((List.replicate w (0 : Rat)).map enc))) x16 x18 x19 x20).set 8 (.sh (enc x))) W = some (.val (enc x) .sh W) := rfl
      unfold k_c_law_9
      rw [ap_c2, vr]
      dsimp only
      rw [tp]
      simp [pEq]
    · unfold k_e_law_10
      rfl
  have fl : (List.replicate w (0 : Rat)).filter (fun x => !decide (x = 0)) = [] := by
    rw [List.filter_eq_nil_iff]
    intro x hx
    rw [List.mem_replicate] at hx
    simp [hx.2]
  rw [fl] at e
  have c := @comp_ok [8] (.nm 8) (cSeqI (cVar 15)) k_c_law_9 k_e_law_10 (EV x0 x1 (.sh (.int m)) (.sh (.int w)) (.sh (.lst (A.map encT))) x7 x9 x10 (.sh (.tup (b.map enc))) (.sh (.tup [.str "none", encT v])) x14 (.sh (.lst ((List.replicate w (0 : Rat)).map enc))) x16 x18 x19 x20) W W W _ _ (by simp [EV]) (by simp; omega) e
  have n0 : eqD true (.lst []) (.lst []) = some false := @eqD_nil true []
  have t1 : c2 pNes (cComp [8] (.nm 8) (cSeqI (cVar 15)) k_c_law_9 k_e_law_10) (cLst cNil) (EV x0 x1 (.sh (.int m)) (.sh (.int w)) (.sh (.lst (A.map encT))) x7 x9 x10 (.sh (.tup (b.map enc))) (.sh (.tup [.str "none", encT v])) x14 (.sh (.lst ((List.replicate w (0 : Rat)).map enc))) x16 x18 x19 x20) W = some (.val (.bl false) .sh W) := by
    rw [ap_c2, c]
    simp [lim, pEq, n0]
  have t2 : c2 pNes (cL pLen (cCons (c2 pIdx (cVar 13) (cC (.int 1))) cNil)) (cVar 2) (EV x0 x1 (.sh (.int m)) (.sh (.int w)) (.sh (.lst (A.map encT))) x7 x9 x10 (.sh (.tup (b.map enc))) (.sh (.tup [.str "none", encT v])) x14 (.sh (.lst ((List.replicate w (0 : Rat)).map enc))) x16 x18 x19 x20) W = some (.val (.bl false) .sh W) := by
    simp [EV, encT, hv]
  rw [seq_nx (ρ' := EV x0 x1 (.sh (.int m)) (.sh (.int w)) (.sh (.lst (A.map encT))) x7 x9 x10 (.sh (.tup (b.map enc))) (.sh (.tup [.str "none", encT v])) x14 (.sh (.lst ((List.replicate w (0 : Rat)).map enc))) x16 x18 x19 x20) (W' := W) (by
    rw [ap_shr, show shareAll [15] (EV x0 x1 (.sh (.int m)) (.sh (.int w)) (.sh (.lst (A.map encT))) x7 x9 x10 (.sh (.tup (b.map enc))) (.sh (.tup [.str "none", encT v])) x14 (.ow (.lst ((List.replicate w (0 : Rat)).map enc))) x16 x18 x19 x20) = EV x0 x1 (.sh (.int m)) (.sh (.int w)) (.sh (.lst (A.map encT))) x7 x9 x10 (.sh (.tup (b.map enc))) (.sh (.tup [.str "none", encT v])) x14 (.sh (.lst ((List.replicate w (0 : Rat)).map enc))) x16 x18 x19 x20 from rfl]
    rw [ap_ifs, ap_or, t1]
    simp only
    rw [t2]
    simp only [Bool.false_eq_true, if_false, ap_nx])]
  -- the right sides
  have iz : cZip (cCons (cFr (c2 pIdx (cVar 13) (cC (.int 1)))) (cCons (cFr (cVar 11)) cNil)) (EV x0 x1 (.sh (.int m)) (.sh (.int w)) (.sh (.lst (A.map encT))) x7 x9 x10 (.sh (.tup (b.map enc))) (.sh (.tup [.str "none", encT v])) x14 (.sh (.lst ((List.replicate w (0 : Rat)).map enc))) x16 x18 x19 x20) W = some (.its ((List.zip v b).map fun p => .tup [enc p.1, enc p.2]) W) := by
    rw [ap_zip, cons2 (a2 _) (k' := .sh) (W2 := W) (e := .tup (b.map enc)) (by simp [EV])]
    simp only [shs_cons, shs_nil, Option.map_some, seqsOf, encT, seq_tup]
    rw [@zip_two Rat Rat enc enc v b]
  have e8 := @lcN_map (Rat × Rat) (.tp [(.nm 8), (.nm 17)]) k_e_law_8 (EV x0 x1 (.sh (.int m)) (.sh (.int w)) (.sh (.lst (A.map encT))) x7 x9 x10 (.sh (.tup (b.map enc))) (.sh (.tup [.str "none", encT v])) x14 (.sh (.lst ((List.replicate w (0 : Rat)).map enc))) x16 x18 x19 x20) W (fun p => .tup [enc p.1, enc p.2]) (fun p => enc (p.1 * p.2)) (List.zip v b) fun q hq => by
    have z1 := zv _ (List.of_mem_zip hq).1
    have z2 := (gb _ (List.of_mem_zip hq).2).sz (n := 18) (by decide) (by decide) (by decide)
    have tm := @t_lmul q.1 q.2 W 303 18 z1 z2 (by decide)
    exact ⟨_, .sh, by simp; rfl, by simp [k_e_law_8, EV, tm]⟩
  have hmz : (List.zip v b).map (fun p => enc (p.1 * p.2)) = (List.zipWith (· * ·) v b).map enc := by
    rw [List.zip, List.map_zipWith, List.map_zipWith]
  rw [hmz] at e8
  have c8 := @comp_ok [8, 17] (.tp [(.nm 8), (.nm 17)]) _ (cC (.bl true)) k_e_law_8 (EV x0 x1 (.sh (.int m)) (.sh (.int w)) (.sh (.lst (A.map encT))) x7 x9 x10 (.sh (.tup (b.map enc))) (.sh (.tup [.str "none", encT v])) x14 (.sh (.lst ((List.replicate w (0 : Rat)).map enc))) x16 x18 x19 x20) W W W _ _ iz (by simp; omega) e8
  have tt := @t_total W 321 (List.zipWith (· * ·) v b) (fun x hx => by
    rw [← List.map_uncurry_zip_eq_zipWith] at hx
    obtain ⟨q, hq, rfl⟩ := List.mem_map.mp hx
    exact (zv _ (List.of_mem_zip hq).1).mul ((gb _ (List.of_mem_zip hq).2).sz (n := 18) (by decide) (by decide) (by decide))) (by
    rw [List.length_zipWith]; omega)
  have t3 : c2 pIdx (cCall k_f__law_total (cCons (cFr (cComp [8, 17] (.tp [(.nm 8), (.nm 17)]) (cZip (cCons (cFr (c2 pIdx (cVar 13) (cC (.int 1)))) (cCons (cFr (cVar 11)) cNil))) (cC (.bl true)) k_e_law_8)) cNil)) (cC (.int 0)) (EV x0 x1 (.sh (.int m)) (.sh (.int w)) (.sh (.lst (A.map encT))) x7 x9 x10 (.sh (.tup (b.map enc))) (.sh (.tup [.str "none", encT v])) x14 (.sh (.lst ((List.replicate w (0 : Rat)).map enc))) x16 x18 x19 x20) W = some (.val (.int (sumL (List.zipWith (· * ·) v b)).num) .sh W) := by
    rw [ap_c2, ap_call, ap_cons, ap_fr, c8]
    simp only [reduceCtorEq, if_false, ap_nil, shs_cons, shs_nil, Option.map_some]
    rw [tt]
    simp
  have hn : ¬ (sumL (List.zipWith (· * ·) v b)).num = 0 := fun e => h1 (Rat.num_eq_zero.mp e)
  rw [seq_nx (ρ' := EV x0 x1 (.sh (.int m)) (.sh (.int w)) (.sh (.lst (A.map encT))) x7 x9 x10 (.sh (.tup (b.map enc))) (.sh (.tup [.str "none", encT v])) x14 (.sh (.lst ((List.replicate w (0 : Rat)).map enc))) x16 x18 x19 x20) (W' := W) (by
    rw [ap_ifs, ap_c2, t3]
    simp only [ap_c, pEq_ii, hn, decide_false, Bool.false_eq_true, if_false, Option.map_some, ap_nx])]
  rfl
end
end Wk

set_option Elab.async false
set_option linter.all false
set_option maxRecDepth 100000
set_option maxHeartbeats 4000000
namespace Wk
open PySem Km
noncomputable def lawS9b : SmS := (cSeq (cIfS (cOr (c2 pNes (cL pLen (cCons (c2 pIdx (cVar 13) (cC (.int 1))) cNil)) (cVar 3)) (c2 pNes (cCall k_f__law_times (cCons (cFr (cVar 9)) (cCons (cFr (c2 pIdx (cVar 13) (cC (.int 1)))) cNil))) (cL pList (cCons (cVar 11) cNil))))
(cSeq (cRet (cC (.bl false)))
cNx)
(cSeq (cIfS (c2 pNes (c2 pIdx (cVar 13) (cC (.int 0))) (cIf (c2 pEqs (cVar 14) (cVar 3)) (cC (.str "one")) (cC (.str "many"))))
(cSeq (cRet (cC (.bl false)))
cNx)
cNx)
cNx))
cNx)
noncomputable def lawS9 : SmS := cIfS (c2 pEqs (c2 pIdx (cVar 13) (cC (.int 0))) (cC (.str "none"))) lawS9a lawS9b
section
variable {W : Ro} {x0 x1 x2 x3 x4 x7 x9 x10 x11 x13 x14 x15 x16 x18 x19 x20 : Sl} {m w : Nat} {A : Mat} {b v : Row}
theorem law9b {r : Nat} (hm : m ≤ 4) (hw : w ≤ 4) (hA : A.length = m) (s : Shp A w) (gA : ∀ r ∈ A, ∀ x ∈ r, Gr 144 1296 x) (hv : v.length = w) (zv : SzR 303 v) (h0 : (A.map fun r => sumL (List.zipWith (· * ·) r v)) = b) :
    lawS9b (EV x0 x1 (.sh (.int m)) (.sh (.int w)) x4 x7 (.sh (.tup (A.map encT))) x10 (.sh (.tup (b.map enc))) (.sh (.tup [.str (if r = w then ("one" : Str) else ("many" : Str)), encT v])) (.sh (.int r)) x15 x16 x18 x19 x20) W = some (.nx (EV x0 x1 (.sh (.int m)) (.sh (.int w)) x4 x7 (.sh (.tup (A.map encT))) x10 (.sh (.tup (b.map enc))) (.sh (.tup [.str (if r = w then ("one" : Str) else ("many" : Str)), encT v])) (.sh (.int r)) x15 x16 x18 x19 x20) W) := by
  have t := @t_ltimes A v w 11 303 W (.tup (A.map encT)) (encT v) rfl rfl s (fun r hr x hx => (gA r hr x hx).sz (by decide) (by decide) (by decide)) zv (by omega) (by decide) (by omega) (by omega)
  rw [h0] at t
  have t2 : c2 pNes (cL pLen (cCons (c2 pIdx (cVar 13) (cC (.int 1))) cNil)) (cVar 3) (EV x0 x1 (.sh (.int m)) (.sh (.int w)) x4 x7 (.sh (.tup (A.map encT))) x10 (.sh (.tup (b.map enc))) (.sh (.tup [.str (if r = w then ("one" : Str) else ("many" : Str)), encT v])) (.sh (.int r)) x15 x16 x18 x19 x20) W = some (.val (.bl false) .sh W) := by
    simp [EV, encT, hv]
  have a1 : cFr (cVar 9) (EV x0 x1 (.sh (.int m)) (.sh (.int w)) x4 x7 (.sh (.tup (A.map encT))) x10 (.sh (.tup (b.map enc))) (.sh (.tup [.str (if r = w then ("one" : Str) else ("many" : Str)), encT v])) (.sh (.int r)) x15 x16 x18 x19 x20) W = some (.val (.tup (A.map encT)) .sh W) := by simp [EV]
  have a2 : cFr (c2 pIdx (cVar 13) (cC (.int 1))) (EV x0 x1 (.sh (.int m)) (.sh (.int w)) x4 x7 (.sh (.tup (A.map encT))) x10 (.sh (.tup (b.map enc))) (.sh (.tup [.str (if r = w then ("one" : Str) else ("many" : Str)), encT v])) (.sh (.int r)) x15 x16 x18 x19 x20) W = some (.val (encT v) .sh W) := by simp [EV]
  have a3 : cL pList (cCons (cVar 11) cNil) (EV x0 x1 (.sh (.int m)) (.sh (.int w)) x4 x7 (.sh (.tup (A.map encT))) x10 (.sh (.tup (b.map enc))) (.sh (.tup [.str (if r = w then ("one" : Str) else ("many" : Str)), encT v])) (.sh (.int r)) x15 x16 x18 x19 x20) W = some (.val (.lst (b.map enc)) .fr W) := by simp [EV]
  have t3 : c2 pNes (cCall k_f__law_times (cCons (cFr (cVar 9)) (cCons (cFr (c2 pIdx (cVar 13) (cC (.int 1)))) cNil))) (cL pList (cCons (cVar 11) cNil)) (EV x0 x1 (.sh (.int m)) (.sh (.int w)) x4 x7 (.sh (.tup (A.map encT))) x10 (.sh (.tup (b.map enc))) (.sh (.tup [.str (if r = w then ("one" : Str) else ("many" : Str)), encT v])) (.sh (.int r)) x15 x16 x18 x19 x20) W = some (.val (.bl false) .sh W) := by
    rw [ap_c2, ap_call, cons2 a1 a2]
    simp only [shs_cons, shs_nil, Option.map_some]
    rw [t]
    dsimp only
    rw [a3]
    simp [pEq]
  have t4 : c2 pNes (c2 pIdx (cVar 13) (cC (.int 0))) (cIf (c2 pEqs (cVar 14) (cVar 3)) (cC (.str "one")) (cC (.str "many"))) (EV x0 x1 (.sh (.int m)) (.sh (.int w)) x4 x7 (.sh (.tup (A.map encT))) x10 (.sh (.tup (b.map enc))) (.sh (.tup [.str (if r = w then ("one" : Str) else ("many" : Str)), encT v])) (.sh (.int r)) x15 x16 x18 x19 x20) W = some (.val (.bl false) .sh W) := by
    by_cases hr : r = w
    · simp [EV, hr, pEq, s_oo]
    · have hr' : ¬ (r : Int) = (w : Int) := by omega
      simp [EV, hr, hr', pEq, s_mm]
  unfold lawS9b
  rw [ap_seq, ap_ifs, ap_or, t2]
  simp only
  rw [t3]
  simp only [Bool.false_eq_true, if_false]
  rw [ap_seq, ap_ifs, t4]
  simp only [Bool.false_eq_true, if_false, ap_nx]
theorem law9 (hm : m ≤ 4) (hw : w ≤ 4) (hA : A.length = m) (s : Shp A w) (gA : ∀ r ∈ A, ∀ x ∈ r, Gr 144 1296 x) (hb : b.length = m) (gb : ∀ x ∈ b, Gr 1728 186624 x) {t : Str} (T : Told A b w (Km.run (List.range w) (exts A b) []) t v) :
    ∃ x15', lawS9 (EV x0 x1 (.sh (.int m)) (.sh (.int w)) (.sh (.lst (A.map encT))) x7 (.sh (.tup (A.map encT))) x10 (.sh (.tup (b.map enc))) (.sh (.tup [.str t, encT v])) (.sh (.int (Km.run (List.range w) (exts A b) []).2.length)) x15 x16 x18 x19 x20) W =
      some (.nx (EV x0 x1 (.sh (.int m)) (.sh (.int w)) (.sh (.lst (A.map encT))) x7 (.sh (.tup (A.map encT))) x10 (.sh (.tup (b.map enc))) (.sh (.tup [.str t, encT v])) (.sh (.int (Km.run (List.range w) (exts A b) []).2.length)) x15' x16 x18 x19 x20) W) := by
  have gA' : ∀ r ∈ A, ∀ x ∈ r, Gr 1728 186624 x := fun r hr x hx => gr1728 (gA r hr x hx)
  have test : ∀ (t : Str) (bb : Bool), eqD false (.str t) (.str "none") = some bb → c2 pEqs (c2 pIdx (cVar 13) (cC (.int 0))) (cC (.str "none")) (EV x0 x1 (.sh (.int m)) (.sh (.int w)) (.sh (.lst (A.map encT))) x7 (.sh (.tup (A.map encT))) x10 (.sh (.tup (b.map enc))) (.sh (.tup [.str t, encT v])) (.sh (.int (Km.run (List.range w) (exts A b) []).2.length)) x15 x16 x18 x19 x20) W = some (.val (.bl bb) .sh W) := by
    intro t bb h
    simp [EV, pEq, h]
  unfold lawS9
  rcases T.ok with ⟨rfl, i, h1, h2, h3, hv⟩ | ⟨ht, h1, hv, hp⟩
  · obtain ⟨c1, _, c2, c3⟩ := cert hA s rfl h1 h2 h3 hv hb
    have zv : SzR 303 v := fun x hx => by
      rw [hv] at hx
      exact rowsSz hm hw hA s gA' gb _ (getD_mem h2) x (List.mem_of_mem_drop hx)
    obtain ⟨x15', e⟩ := @law9a W x0 x1 x7 (.sh (.tup (A.map encT))) x10 (.sh (.int (Km.run (List.range w) (exts A b) []).2.length)) x15 x16 x18 x19 x20 m w A b v hm hw hA s gA hb gb c1 zv c2 c3
    refine ⟨x15', ?_⟩
    rw [ap_ifs, test _ true s_nn]
    simp only [if_true]
    exact e
  · have e0 : eqD false (.str t) (.str "none") = some false := by
      rw [ht]
      split
      · exact s_on
      · exact s_mn
    refine ⟨x15, ?_⟩
    rw [ap_ifs, test _ false e0]
    simp only [Bool.false_eq_true, if_false]
    rw [ht]
    exact law9b hm hw hA s gA hv (solvedSz hm hw hA s gA' gb rfl hv hp) (solved_ok hA s rfl h1 hv hp hb)
end
end Wk

set_option Elab.async false
set_option linter.all false
set_option maxRecDepth 100000
set_option maxHeartbeats 4000000
namespace Wk
open PySem Km
theorem eqD_bb {neg : Bool} : ∀ {a b : Bool}, eqD neg (.bl a) (.bl b) = some (if neg then !decide (a = b) else decide (a = b)) := by
  intro a b
  cases neg <;> cases a <;> cases b <;> decide +kernel
section
variable {W : Ro} {x0 x1 x2 x3 x4 x7 x9 x10 x11 x13 x14 x15 x16 x18 x19 x20 : Sl} {m w : Nat} {A : Mat} {b v : Row}
theorem law11 (h : WF W) (hm : m ≤ 4) : ∃ (W' : Ro) (Q : Mat), WF W' ∧ Q.length = m ∧ Shp Q m ∧ (∀ r ∈ Q, ∀ x ∈ r, Gr 12 36 x) ∧
    cAsg 18 (cL pTuple (cCons (cComp [6] (.nm 6) (cRng1 (cCons (cVar 2) cNil)) (cC (.bl true)) k_e_law_5) cNil)) (EV x0 (.sh .row) (.sh (.int m)) x3 x4 x7 x9 x10 x11 x13 x14 x15 x16 x18 x19 x20) W =
    some (.nx (EV x0 (.sh .row) (.sh (.int m)) x3 x4 x7 x9 x10 x11 x13 x14 x15 x16 (.sh (.tup (Q.map encT))) x19 x20) W') := by
  obtain ⟨A, W', e, w', hl, hp⟩ := @lcN_draw Row (.nm 6) k_e_law_5 (EV x0 (.sh .row) (.sh (.int m)) x3 x4 x7 x9 x10 x11 x13 x14 x15 x16 x18 x19 x20) WF (fun r => r.length = m ∧ ∀ x ∈ r, Gr 12 36 x) encT ((List.range m).map fun (i : Nat) => D.int i) W h fun d _ W h => by
    obtain ⟨W1, r, e1, w1, hr, g⟩ := @t_drawrow W [5] 5 (cRng1 (cCons (cVar 2) cNil)) k_e_law_4 ((EV x0 (.sh .row) (.sh (.int m)) x3 x4 x7 x9 x10 x11 x13 x14 x15 x16 x18 x19 x20).set 6 (.sh d)) _ h (rng_ok (m := m) (k := .sh) (W' := W) (by simp [EV]) (by omega)) (by simp; omega) (by simp [EV]) (by decide) rfl
    refine ⟨_, r, .sh, W1, tg_nm, ?_, ⟨by simpa using hr, g⟩, w1⟩
    unfold k_e_law_5
    rw [ap_fr, ap_L, ap_cons, e1]
    simp [encL, encT]
  have c := @comp_ok [6] (.nm 6) (cRng1 (cCons (cVar 2) cNil)) (cC (.bl true)) k_e_law_5 (EV x0 (.sh .row) (.sh (.int m)) x3 x4 x7 x9 x10 x11 x13 x14 x15 x16 x18 x19 x20) W W W' _ _ (rng_ok (m := m) (k := .sh) (W' := W) (by simp [EV]) (by omega)) (by simp; omega) e
  refine ⟨W', A, w', by simpa using hl, fun r hr => (hp r hr).1, fun r hr => (hp r hr).2, ?_⟩
  rw [ap_asg, ap_L, ap_cons, c]
  simp only [ap_nil, List.map_cons, List.map_nil, tuple_lst, Option.map_some]
  rfl
/-- the inverse, as told -/
def backD (R : Mat × List Nat) (m : Nat) : D := if R.2.length = m then .tup (R.1.map fun r => encT (r.drop (m + 1))) else .non
theorem gr1728' {x : Rat} (h : Gr 12 36 x) : Gr 1728 186624 x := (h.scale 144 (by decide)).mono (by decide)
theorem law12 {Q : Mat} (hm1 : 1 ≤ m) (hm : m ≤ 4) (hQ : Q.length = m) (s : Shp Q m) (gQ : ∀ r ∈ Q, ∀ x ∈ r, Gr 12 36 x) :
    cAsg 19 (cCall k_f_inverse (cCons (cFr (cVar 18)) cNil)) (EV x0 x1 x2 x3 x4 x7 x9 x10 x11 x13 x14 x15 x16 (.sh (.tup (Q.map encT))) x19 x20) W =
    some (.nx (EV x0 x1 x2 x3 x4 x7 x9 x10 x11 x13 x14 x15 x16 (.sh (.tup (Q.map encT))) (.sh (backD (Km.run (List.range m) (exts Q (List.replicate m 0)) []) m)) x20) W) := by
  have gQ' : ∀ r ∈ Q, ∀ x ∈ r, Gr 1728 186624 x := fun r hr x hx => gr1728' (gQ r hr x hx)
  have t := @t_inverse Q W m 18 s hm1 hQ (by omega) (mz_exts (by decide) (by decide) gQ' fun x hx => by
    rw [List.mem_replicate] at hx
    rw [hx.2]
    exact (Gr.zero (by decide)).mono (by decide)) (by have := bn4 hm; omega) _ rfl
  simp [EV, t, backD]
theorem law13 {Q : Mat} (hm1 : 1 ≤ m) (hm : m ≤ 4) (hQ : Q.length = m) (s : Shp Q m) (gQ : ∀ r ∈ Q, ∀ x ∈ r, Gr 12 36 x) :
    cIfS (c2 pNes (c2 pIs (cVar 19) (cC (.non))) (c2 pLt (cCall k_f_rank (cCons (cFr (cVar 18)) cNil)) (cVar 2))) (cSeq (cRet (cC (.bl false))) cNx) cNx (EV x0 x1 (.sh (.int m)) x3 x4 x7 x9 x10 x11 x13 x14 x15 x16 (.sh (.tup (Q.map encT))) (.sh (backD (Km.run (List.range m) (exts Q (List.replicate m 0)) []) m)) x20) W =
    some (.nx (EV x0 x1 (.sh (.int m)) x3 x4 x7 x9 x10 x11 x13 x14 x15 x16 (.sh (.tup (Q.map encT))) (.sh (backD (Km.run (List.range m) (exts Q (List.replicate m 0)) []) m)) x20) W) := by
  have gQ' : ∀ r ∈ Q, ∀ x ∈ r, Gr 1728 186624 x := fun r hr x hx => gr1728' (gQ r hr x hx)
  have rk := @t_rank Q W m 18 s (mzA gQ') (by omega) hm1 (by omega) (by omega) (by have := bn4 hm; omega)
  rw [exts_cols (b := List.replicate m 0) s] at rk
  have o := run_all (n := m) (exts_shp (b := List.replicate m 0) s)
  have fw := o.red.few
  have nn : isNon (backD (Km.run (List.range m) (exts Q (List.replicate m 0)) []) m) = some (!decide ((Km.run (List.range m) (exts Q (List.replicate m 0)) []).2.length = m)) := by
    unfold backD
    split
    · rename_i h; simp [isNon, h]
    · rename_i h; simp [isNon, h]
  have test : c2 pNes (c2 pIs (cVar 19) (cC (.non))) (c2 pLt (cCall k_f_rank (cCons (cFr (cVar 18)) cNil)) (cVar 2)) (EV x0 x1 (.sh (.int m)) x3 x4 x7 x9 x10 x11 x13 x14 x15 x16 (.sh (.tup (Q.map encT))) (.sh (backD (Km.run (List.range m) (exts Q (List.replicate m 0)) []) m)) x20) W = some (.val (.bl false) .sh W) := by
    have e1 : c2 pIs (cVar 19) (cC (.non)) (EV x0 x1 (.sh (.int m)) x3 x4 x7 x9 x10 x11 x13 x14 x15 x16 (.sh (.tup (Q.map encT))) (.sh (backD (Km.run (List.range m) (exts Q (List.replicate m 0)) []) m)) x20) W = some (.val (.bl (!decide ((Km.run (List.range m) (exts Q (List.replicate m 0)) []).2.length = m))) .sh W) := by
      simp [EV, pIsN, nn]
    have e2 : c2 pLt (cCall k_f_rank (cCons (cFr (cVar 18)) cNil)) (cVar 2) (EV x0 x1 (.sh (.int m)) x3 x4 x7 x9 x10 x11 x13 x14 x15 x16 (.sh (.tup (Q.map encT))) (.sh (backD (Km.run (List.range m) (exts Q (List.replicate m 0)) []) m)) x20) W = some (.val (.bl (decide ((Km.run (List.range m) (exts Q (List.replicate m 0)) []).2.length < m))) .sh W) := by
      simp [EV, rk]
    rw [ap_c2, e1]
    dsimp only
    rw [e2]
    have : decide ((Km.run (List.range m) (exts Q (List.replicate m 0)) []).2.length < m) = !decide ((Km.run (List.range m) (exts Q (List.replicate m 0)) []).2.length = m) := by
      rw [Bool.eq_iff_iff]; simp; omega
    simp [pEq, eqD_bb, this]
  rw [ap_ifs, test]
  simp only [Bool.false_eq_true, if_false, ap_nx]
end
end Wk

set_option Elab.async false
set_option linter.all false
set_option maxRecDepth 100000
set_option maxHeartbeats 4000000
namespace Wk
open PySem Km
theorem bad_of {d : D} {W : Ro} (h : k_f_is_table [d] W = some (.val (.bl false) .sh W)) : k_f_rank [d] W = some (.exc "BadTable" W) := by
  have t : k_f_need_table [d] W = some (.exc "BadTable" W) := by
    simp [k_f_need_table, k_g_need_table, runDef, env0, h]
  simp [k_f_rank, k_g_rank, runDef, env0, t]
theorem bad0 {W : Ro} : k_f_is_table [.tup []] W = some (.val (.bl false) .sh W) := by
  simp [k_f_is_table, k_g_is_table, runDef, env0, pIsi, tyN, isiB, cChain]
theorem bad1 {W : Ro} : k_f_is_table [.tup [.tup []]] W = some (.val (.bl false) .sh W) := by
  simp [k_f_is_table, k_g_is_table, k_b_is_table_2, runDef, env0, pIsi, tyN, isiB, cChain, forN]
theorem isr11 {W : Ro} : k_f_is_ratio [.tup [.int 1, .int 1]] W = some (.val (.bl true) .sh W) := t_is_ratio (r := 1)
theorem isr12 {W : Ro} : k_f_is_ratio [.tup [.int 1, .int 2]] W = some (.val (.bl true) .sh W) := by
  simp [k_f_is_ratio, k_g_is_ratio, k_b_is_ratio_1, runDef, env0, pIsi, tyN, isiB, forN]
theorem isr22 {W : Ro} : k_f_is_ratio [.tup [.int 2, .int 2]] W = some (.val (.bl false) .sh W) := by
  simp [k_f_is_ratio, k_g_is_ratio, k_b_is_ratio_1, runDef, env0, pIsi, tyN, isiB, forN]
theorem isrT {W : Ro} : k_f_is_ratio [.tup [.bl true, .int 1]] W = some (.val (.bl false) .sh W) := by
  simp [k_f_is_ratio, k_g_is_ratio, k_b_is_ratio_1, runDef, env0, pIsi, tyN, isiB, forN]
theorem bad2 {W : Ro} : k_f_is_table [.tup [.tup [.tup [.int 1, .int 1]], .tup [.tup [.int 1, .int 1], .tup [.int 1, .int 2]]]] W = some (.val (.bl false) .sh W) := by
  simp [k_f_is_table, k_g_is_table, k_b_is_table_2, k_e_is_table_1, runDef, env0, pIsi, tyN, isiB, cChain, forN, lcN, lim, isr11, isr12, pAll, blsOf]
theorem bad3 {W : Ro} : k_f_is_table [.tup [.tup [.tup [.int 2, .int 2]]]] W = some (.val (.bl false) .sh W) := by
  simp [k_f_is_table, k_g_is_table, k_b_is_table_2, k_e_is_table_1, runDef, env0, pIsi, tyN, isiB, cChain, forN, lcN, lim, isr22, pAll, blsOf]
theorem bad4 {W : Ro} : k_f_is_table [.lst [.tup [.tup [.int 1, .int 1]]]] W = some (.val (.bl false) .sh W) := by
  simp [k_f_is_table, k_g_is_table, runDef, env0, pIsi, tyN, isiB]
theorem bad5 {W : Ro} : k_f_is_table [.tup [.tup [.tup [.bl true, .int 1]]]] W = some (.val (.bl false) .sh W) := by
  simp [k_f_is_table, k_g_is_table, k_b_is_table_2, k_e_is_table_1, runDef, env0, pIsi, tyN, isiB, cChain, forN, lcN, lim, isrT, pAll, blsOf]
def bads : List D := [.tup [], .tup [.tup []], .tup [.tup [.tup [.int 1, .int 1]], .tup [.tup [.int 1, .int 1], .tup [.int 1, .int 2]]], .tup [.tup [.tup [.int 2, .int 2]]], .lst [.tup [.tup [.int 1, .int 1]]], .tup [.tup [.tup [.bl true, .int 1]]]]
theorem bad_all {W : Ro} {k : Nat} (hk : k < 6) : ∃ d, bads[k]? = some d ∧ k_f_rank [d] W = some (.exc "BadTable" W) := by
  rcases (by omega : k = 0 ∨ k = 1 ∨ k = 2 ∨ k = 3 ∨ k = 4 ∨ k = 5) with rfl | rfl | rfl | rfl | rfl | rfl
  · exact ⟨_, rfl, bad_of bad0⟩
  · exact ⟨_, rfl, bad_of bad1⟩
  · exact ⟨_, rfl, bad_of bad2⟩
  · exact ⟨_, rfl, bad_of bad3⟩
  · exact ⟨_, rfl, bad_of bad4⟩
  · exact ⟨_, rfl, bad_of bad5⟩
theorem t_pick {W : Ro} (h : WF W) : ∃ W' k, k < 6 ∧ WF W' ∧ ∀ d, bads[k]? = some d → k_f__law_pick [.row, .lst bads] W = some (.val d .sh W') := by
  obtain ⟨W1, k, e1, w1, k0, k1⟩ := t_draw (m := 6) h (by omega) (by omega)
  refine ⟨W1, k.toNat, by omega, w1, fun d hd => ?_⟩
  have hk : k = ((k.toNat : Nat) : Int) := by omega
  have i1 : pIdx W1 (.lst bads) (.int k) = some (d, .sh) := by
    rw [hk, idx_lst, at_nat, hd]; rfl
  have hl : ((bads.length : Nat) : Int) = 6 := rfl
  obtain ⟨ns, a, s, t, rfl, _⟩ := h
  simp [k_f__law_pick, k_g__law_pick, runDef, env0, hl, e1, i1]
end Wk

set_option Elab.async false
set_option linter.all false
set_option maxRecDepth 100000
set_option maxHeartbeats 4000000
namespace Wk
open PySem Km
noncomputable def lawList : Sm := (cLst (cCons (cFr (cTup cNil)) (cCons (cFr (cTup (cCons (cFr (cTup cNil)) cNil))) (cCons (cFr (cTup (cCons (cFr (cTup (cCons (cFr (cTup (cCons (cFr (cC (.int 1))) (cCons (cFr (cC (.int 1))) cNil)))) cNil))) (cCons (cFr (cTup (cCons (cFr (cTup (cCons (cFr (cC (.int 1))) (cCons (cFr (cC (.int 1))) cNil)))) (cCons (cFr (cTup (cCons (cFr (cC (.int 1))) (cCons (cFr (cC (.int 2))) cNil)))) cNil)))) cNil)))) (cCons (cFr (cTup (cCons (cFr (cTup (cCons (cFr (cTup (cCons (cFr (cC (.int 2))) (cCons (cFr (cC (.int 2))) cNil)))) cNil))) cNil))) (cCons (cFr (cLst (cCons (cFr (cTup (cCons (cFr (cTup (cCons (cFr (cC (.int 1))) (cCons (cFr (cC (.int 1))) cNil)))) cNil))) cNil))) (cCons (cFr (cTup (cCons (cFr (cTup (cCons (cFr (cTup (cCons (cFr (cC (.bl true))) (cCons (cFr (cC (.int 1))) cNil)))) cNil))) cNil))) cNil)))))))
noncomputable def lawS15 : SmS := cTry 22 k_ct_BadTable (cSeq (cExpr (cCall k_f_rank (cCons (cFr (cCall k_f__law_pick (cCons (cFr (cVar 1)) (cCons (cFr lawList) cNil)))) cNil))) cNx) (cSeq (cRet (cC (.bl true))) cNx)
section
variable {W : Ro} {x0 x1 x2 x3 x4 x7 x9 x10 x11 x13 x14 x15 x16 x18 x19 x20 : Sl} {m w : Nat} {A : Mat} {b v : Row}
theorem list_ok {ρ : Env'} : cFr lawList ρ W = some (.val (.lst bads) .sh W) := by
  simp [lawList, lim, bads]
theorem law15 (h : WF W) : ∃ W', lawS15 (EV x0 (.sh .row) x2 x3 x4 x7 x9 x10 x11 x13 x14 x15 x16 x18 x19 x20) W = some (.rt (.bl true) .sh W') := by
  obtain ⟨W1, k, hk, w1, hp⟩ := t_pick h
  obtain ⟨d, hd, hr⟩ := @bad_all W1 k hk
  have hp := hp d hd
  have e : cSeq (cExpr (cCall k_f_rank (cCons (cFr (cCall k_f__law_pick (cCons (cFr (cVar 1)) (cCons (cFr lawList) cNil)))) cNil))) cNx (EV x0 (.sh .row) x2 x3 x4 x7 x9 x10 x11 x13 x14 x15 x16 x18 x19 x20) W = some (.exc "BadTable" (EV x0 (.sh .row) x2 x3 x4 x7 x9 x10 x11 x13 x14 x15 x16 x18 x19 x20) W1) := by
    have a1 : cFr (cVar 1) (EV x0 (.sh .row) x2 x3 x4 x7 x9 x10 x11 x13 x14 x15 x16 x18 x19 x20) W = some (.val .row .sh W) := by simp [EV]
    have a3 : cFr (cCall k_f__law_pick (cCons (cFr (cVar 1)) (cCons (cFr lawList) cNil))) (EV x0 (.sh .row) x2 x3 x4 x7 x9 x10 x11 x13 x14 x15 x16 x18 x19 x20) W = some (.val d .sh W1) := by
      rw [ap_fr, ap_call, cons2 a1 list_ok]
      simp only [shs_cons, shs_nil, Option.map_some]
      rw [hp]
      simp
    refine seq_exc ?_
    rw [ap_expr, ap_call, ap_cons, a3]
    simp only [ap_nil, shs_cons, shs_nil, Option.map_some]
    rw [hr]
  refine ⟨W1, ?_⟩
  unfold lawS15 cTry
  rw [e]
  simp [k_ct_BadTable]
/-- a column of the inverse -/
def bcol (R : Mat) (m k : Nat) : Row := R.map fun r => (r.drop (m + 1)).getD k 0
theorem bcol_get {R : Mat} {m k j : Nat} : (bcol R m k).getD j 0 = ent R j (m + 1 + k) := by
  unfold bcol ent
  simp only [List.getD_eq_getElem?_getD, List.getElem?_map]
  cases R[j]? <;> simp
theorem unit_list (hm : m ≤ 4) {k : Nat} : cComp [21] (.nm 21) (cRng1 (cCons (cVar 2) cNil)) (cC (.bl true)) k_e_law_2 (EV x0 x1 (.sh (.int m)) x3 x4 x7 x9 x10 x11 x13 x14 x15 (.sh (.int k)) x18 x19 x20) W = some (.val (.lst ((unitR m k).map enc)) .fr W) := by
  have e := @lcN_map Nat (.nm 21) k_e_law_2 (EV x0 x1 (.sh (.int m)) x3 x4 x7 x9 x10 x11 x13 x14 x15 (.sh (.int k)) x18 x19 x20) W (fun (i : Nat) => D.int i) (fun j => enc (if k = j then 1 else 0)) (List.range m) fun j hj => by
    refine ⟨_, .sh, tg_nm, ?_⟩
    by_cases h : k = j
    · subst h
      simp [k_e_law_2, EV, enc1, lim]
    · have h' : ¬ (j : Int) = (k : Int) := by omega
      have h2 : ¬ j = k := fun e => h e.symm
      simp [k_e_law_2, EV, h, h', h2, enc0, lim]
  have c := @comp_ok [21] (.nm 21) (cRng1 (cCons (cVar 2) cNil)) (cC (.bl true)) k_e_law_2 (EV x0 x1 (.sh (.int m)) x3 x4 x7 x9 x10 x11 x13 x14 x15 (.sh (.int k)) x18 x19 x20) W W W _ _ (rng_ok (m := m) (k := .sh) (W' := W) (by simp [EV]) (by omega)) (by simp; omega) e
  rw [c]
  unfold unitR
  rw [List.map_map]
  rfl
end
end Wk

set_option Elab.async false
set_option linter.all false
set_option maxRecDepth 100000
set_option maxHeartbeats 4000000
namespace Wk
open PySem Km
section
variable {W : Ro} {x0 x1 x2 x3 x4 x7 x9 x10 x11 x13 x14 x15 x16 x18 x19 x20 : Sl} {m w : Nat} {A : Mat} {b v : Row}
theorem law14 {Q : Mat} (hm1 : 1 ≤ m) (hm : m ≤ 4) (hQ : Q.length = m) (s : Shp Q m) (gQ : ∀ r ∈ Q, ∀ x ∈ r, Gr 12 36 x) :
    ∃ x16' x20', cFor (.nm 16) (cRng1 (cCons (cVar 2) cNil)) k_b_law_3 (EV x0 x1 (.sh (.int m)) x3 x4 x7 x9 x10 x11 x13 x14 x15 x16 (.sh (.tup (Q.map encT))) (.sh (backD (Km.run (List.range m) (exts Q (List.replicate m 0)) []) m)) x20) W =
    some (.nx (EV x0 x1 (.sh (.int m)) x3 x4 x7 x9 x10 x11 x13 x14 x15 x16' (.sh (.tup (Q.map encT))) (.sh (backD (Km.run (List.range m) (exts Q (List.replicate m 0)) []) m)) x20') W) := by
  have gQ' : ∀ r ∈ Q, ∀ x ∈ r, Gr 1728 186624 x := fun r hr x hx => gr1728' (gQ r hr x hx)
  have o := run_all (n := m) (exts_shp (b := List.replicate m 0) s)
  have zR := @rowsSz Q (List.replicate m 0) m m hm hm hQ s gQ' fun x hx => by
    rw [List.mem_replicate] at hx
    rw [hx.2]
    exact (Gr.zero (by decide)).mono (by decide)
  obtain ⟨R, hR⟩ : ∃ R, R = Km.run (List.range m) (exts Q (List.replicate m 0)) [] := ⟨_, rfl⟩
  rw [← hR] at o zR ⊢
  have lR : R.1.length = m := by rw [o.len, exts_len, hQ]
  obtain ⟨ρ', W', e, eW, x16', x20', er⟩ := @forN_range (.nm 16) k_b_law_3 m (fun j ρ W' => W' = W ∧ ∃ x16 x20, ρ = EV x0 x1 (.sh (.int m)) x3 x4 x7 x9 x10 x11 x13 x14 x15 x16 (.sh (.tup (Q.map encT))) (.sh (backD R m)) x20)
    (EV x0 x1 (.sh (.int m)) x3 x4 x7 x9 x10 x11 x13 x14 x15 x16 (.sh (.tup (Q.map encT))) (.sh (backD R m)) x20) W ⟨rfl, x16, x20, rfl⟩ (by
    rintro k hk ρ W' ⟨rfl, x16, x20, rfl⟩
    refine ⟨EV x0 x1 (.sh (.int m)) x3 x4 x7 x9 x10 x11 x13 x14 x15 (.sh (.int k)) (.sh (.tup (Q.map encT))) (.sh (backD R m)) x20, EV x0 x1 (.sh (.int m)) x3 x4 x7 x9 x10 x11 x13 x14 x15 (.sh (.int k)) (.sh (.tup (Q.map encT))) (.sh (backD R m)) (.ow (.lst ((unitR m k).map enc))), W', tg_nm, ?_, rfl, _, _, rfl⟩
    unfold k_b_law_3
    rw [seq_nx (ρ' := EV x0 x1 (.sh (.int m)) x3 x4 x7 x9 x10 x11 x13 x14 x15 (.sh (.int k)) (.sh (.tup (Q.map encT))) (.sh (backD R m)) (.ow (.lst ((unitR m k).map enc)))) (W' := W') (by rw [ap_asg, unit_list hm]; rfl)]
    have test : cAnd (c2 pIsnt (cVar 19) (cC (.non))) (c2 pNes (cCall k_f__law_times (cCons (cFr (cVar 18)) (cCons (cFr (cComp [12] (.nm 12) (cSeqI (cVar 19)) (cC (.bl true)) k_e_law_1)) cNil))) (cVar 20)) (EV x0 x1 (.sh (.int m)) x3 x4 x7 x9 x10 x11 x13 x14 x15 (.sh (.int k)) (.sh (.tup (Q.map encT))) (.sh (backD R m)) (.ow (.lst ((unitR m k).map enc)))) W' = some (.val (.bl false) .sh W') := by
      by_cases hk2 : R.2.length = m
      · have hb : backD R m = .tup (R.1.map fun r => encT (r.drop (m + 1))) := if_pos hk2
        have e1 : c2 pIsnt (cVar 19) (cC (.non)) (EV x0 x1 (.sh (.int m)) x3 x4 x7 x9 x10 x11 x13 x14 x15 (.sh (.int k)) (.sh (.tup (Q.map encT))) (.sh (backD R m)) (.ow (.lst ((unitR m k).map enc)))) W' = some (.val (.bl true) .sh W') := by
          rw [hb]
          simp [EV, pIsN, isNon]
        have ec := @lcN_map Row (.nm 12) k_e_law_1 (EV x0 x1 (.sh (.int m)) x3 x4 x7 x9 x10 x11 x13 x14 x15 (.sh (.int k)) (.sh (.tup (Q.map encT))) (.sh (backD R m)) (.ow (.lst ((unitR m k).map enc)))) W' (fun r => encT (r.drop (m + 1))) (fun r => enc ((r.drop (m + 1)).getD k 0)) R.1 fun r hr => by
          have i1 : pIdx W' (encT (r.drop (m + 1))) (.int k) = some (enc ((r.drop (m + 1)).getD k 0), .sh) := by
            unfold encT
            rw [idx_tup, at_nat, map_get 0 (by rw [List.length_drop, o.shp r hr]; omega)]; rfl
          exact ⟨_, .sh, tg_nm, by simp [k_e_law_1, EV, i1, -List.getD_eq_getElem?_getD]⟩
        have c := @comp_ok [12] (.nm 12) (cSeqI (cVar 19)) (cC (.bl true)) k_e_law_1 (EV x0 x1 (.sh (.int m)) x3 x4 x7 x9 x10 x11 x13 x14 x15 (.sh (.int k)) (.sh (.tup (Q.map encT))) (.sh (backD R m)) (.ow (.lst ((unitR m k).map enc)))) W' W' W' _ _ (by rw [hb]; simp [EV]) (by rw [List.length_map]; omega) ec
        have hm2 : R.1.map (fun r => enc ((r.drop (m + 1)).getD k 0)) = (bcol R.1 m k).map enc := by unfold bcol; rw [List.map_map]; rfl
        rw [hm2] at c
        have lb : (bcol R.1 m k).length = m := by simp [bcol, lR]
        have zb : SzR 303 (bcol R.1 m k) := fun x hx => by
          unfold bcol at hx
          obtain ⟨r, hr, rfl⟩ := List.mem_map.mp hx
          rw [getD_drop]
          exact zR r hr _ (getD_mem' (by rw [o.shp r hr]; omega))
        have t := @t_ltimes Q (bcol R.1 m k) m 11 303 W' (.tup (Q.map encT)) (.lst ((bcol R.1 m k).map enc)) rfl rfl s (fun r hr x hx => (gQ r hr x hx).sz (by decide) (by decide) (by decide)) zb (by omega) (by decide) (by omega) (by omega)
        have prod : (Q.map fun r => sumL (List.zipWith (· * ·) r (bcol R.1 m k))) = unitR m k := by
          apply List.ext_getElem
          · simp [hQ, unitR]
          · intro i g1 g2
            have hi : i < m := by rw [List.length_map, hQ] at g1; exact g1
            rw [List.getElem_map, dot_sum (n := m) (s _ (List.getElem_mem _)) lb]
            have tr := turns o (by rw [exts_len, hQ]) hk2 (v := m + 1) (fun i k hi hk => exts_u s (by rwa [exts_len] at hi) (by rwa [exts_len] at hk)) hi hk
            have eu : (unitR m k)[i] = if k = i then 1 else 0 := by
              have := @unit_get m k i hi
              rw [List.getD_eq_getElem?_getD, List.getElem?_eq_getElem g2] at this
              exact this
            rw [eu]
            have : (if k = i then (1 : Rat) else 0) = if i = k then 1 else 0 := by
              by_cases h : i = k
              · rw [if_pos h, if_pos h.symm]
              · rw [if_neg h, if_neg fun e => h e.symm]
            rw [this, ← tr]
            refine sum_congr fun j hj => ?_
            rw [bcol_get, exts_a s (by omega) hj]
            congr 1
            unfold ent
            rw [List.getD_eq_getElem?_getD (l := Q), List.getElem?_eq_getElem (by omega)]
            rfl
        rw [prod] at t
        have a1 : cFr (cVar 18) (EV x0 x1 (.sh (.int m)) x3 x4 x7 x9 x10 x11 x13 x14 x15 (.sh (.int k)) (.sh (.tup (Q.map encT))) (.sh (backD R m)) (.ow (.lst ((unitR m k).map enc)))) W' = some (.val (.tup (Q.map encT)) .sh W') := by simp [EV]
        have a2 : cFr (cComp [12] (.nm 12) (cSeqI (cVar 19)) (cC (.bl true)) k_e_law_1) (EV x0 x1 (.sh (.int m)) x3 x4 x7 x9 x10 x11 x13 x14 x15 (.sh (.int k)) (.sh (.tup (Q.map encT))) (.sh (backD R m)) (.ow (.lst ((unitR m k).map enc)))) W' = some (.val (.lst ((bcol R.1 m k).map enc)) .sh W') := by
          rw [ap_fr, c]
          simp only [reduceCtorEq, if_false]
        have e2 : c2 pNes (cCall k_f__law_times (cCons (cFr (cVar 18)) (cCons (cFr (cComp [12] (.nm 12) (cSeqI (cVar 19)) (cC (.bl true)) k_e_law_1)) cNil))) (cVar 20) (EV x0 x1 (.sh (.int m)) x3 x4 x7 x9 x10 x11 x13 x14 x15 (.sh (.int k)) (.sh (.tup (Q.map encT))) (.sh (backD R m)) (.ow (.lst ((unitR m k).map enc)))) W' = some (.val (.bl false) .sh W') := by
          have v20 : cVar 20 (EV x0 x1 (.sh (.int m)) x3 x4 x7 x9 x10 x11 x13 x14 x15 (.sh (.int k)) (.sh (.tup (Q.map encT))) (.sh (backD R m)) (.ow (.lst ((unitR m k).map enc)))) W' = some (.val (.lst ((unitR m k).map enc)) .bo W') := rfl
          rw [ap_c2, ap_call, cons2 a1 a2]
          simp only [shs_cons, shs_nil, Option.map_some]
          rw [t]
          dsimp only
          rw [v20]
          simp [pEq]
        rw [ap_and, e1]
        simp only
        rw [e2]
      · have hb : backD R m = .non := if_neg hk2
        have e1 : c2 pIsnt (cVar 19) (cC (.non)) (EV x0 x1 (.sh (.int m)) x3 x4 x7 x9 x10 x11 x13 x14 x15 (.sh (.int k)) (.sh (.tup (Q.map encT))) (.sh (backD R m)) (.ow (.lst ((unitR m k).map enc)))) W' = some (.val (.bl false) .sh W') := by
          rw [hb]
          simp [EV, pIsN, isNon]
        rw [ap_and, e1]
    rw [ap_seq, ap_ifs, test]
    simp only [Bool.false_eq_true, if_false, ap_nx])
  obtain rfl := eW
  subst er
  exact ⟨x16', x20', for_nx (rng_ok (m := m) (k := .sh) (W' := W') (by simp [EV]) (by omega)) e⟩
end
end Wk

set_option Elab.async false
set_option linter.all false
set_option maxRecDepth 100000
set_option maxHeartbeats 4000000
namespace Wk
open PySem Km
theorem k_math : ∀ ns : List Int, ns.length ≤ 63 → ∃ W, k_g_law (env0 23 [.scr ns]) none = some (.rt (.bl true) .sh W) := by
  intro ns _
  obtain ⟨W1, w1, e1⟩ := @law1 ns
  obtain ⟨W2, m, w, w2, hm1, hm, hw1, hw, e2⟩ := @law2 W1 (.sh (.scr ns)) .no .no .no .no .no .no .no .no .no .no .no .no .no .no w1
  obtain ⟨W3, A0, w3, hA0, s0, g0, e3⟩ := @law3 W2 (.sh (.scr ns)) .no .no .no .no .no .no .no .no .no .no .no .no m w w2 hm hw
  obtain ⟨W4, A, y7, w4, hA, s, gA, e4⟩ := @law4 W3 (.sh (.scr ns)) .no .no .no .no .no .no .no .no .no .no .no m w A0 w3 hm hw hA0 s0 g0
  obtain ⟨W5, p, w5, hp, gp, e5⟩ := @law5 W4 (.sh (.scr ns)) (.sh (.int m)) y7 .no .no .no .no .no .no .no .no .no .no w A w4 hw
  obtain ⟨W6, b, w6, hb, gb, e6⟩ := @law6 W5 (.sh (.scr ns)) (.sh (.int m)) (.sh (.int w)) y7 .no .no .no .no .no .no .no .no m w A p w5 hm hw hA s gA hp gp
  obtain ⟨t, v, T, e7⟩ := @law7 W6 (.sh (.scr ns)) (.sh .row) (.sh (.int m)) (.sh (.int w)) (.sh (.lst (A.map encT))) y7 (.sh (.lst (p.map enc))) .no .no .no .no .no .no .no m w A b hm1 hm hw1 hw hA s gA hb gb
  have o := run_all (n := w) (exts_shp (b := b) s)
  have r1 : (Km.run (List.range w) (exts A b) []).2.length ≤ m := by have := o.red.le; rw [o.len, exts_len, hA] at this; exact this
  have r2 : (Km.run (List.range w) (exts A b) []).2.length ≤ w := o.red.few
  obtain ⟨y15, e9⟩ := @law9 W6 (.sh (.scr ns)) (.sh .row) y7 (.sh (.lst (p.map enc))) .no .no .no .no .no m w A b v hm hw hA s gA hb gb t T
  have e10 := @law10 W6 (.sh (.scr ns)) (.sh .row) (.sh (.int m)) y7 (.sh (.tup (A.map encT))) (.sh (.lst (p.map enc))) (.sh (.tup (b.map enc))) (.sh (.tup [.str t, encT v])) y15 .no .no .no .no m w A hm1 hm hw1 hw hA s gA
  rw [exts_cols (b := b) s] at e10
  obtain ⟨W7, Q, w7, hQ, sQ, gQ, e11⟩ := @law11 W6 (.sh (.scr ns)) (.sh (.int w)) (.sh (.lst (A.map encT))) y7 (.sh (.tup (A.map encT))) (.sh (.lst (p.map enc))) (.sh (.tup (b.map enc))) (.sh (.tup [.str t, encT v])) (.sh (.int (Km.run (List.range w) (exts A b) []).2.length)) y15 .no .no .no .no m w6 hm
  have e12 := @law12 W7 (.sh (.scr ns)) (.sh .row) (.sh (.int m)) (.sh (.int w)) (.sh (.lst (A.map encT))) y7 (.sh (.tup (A.map encT))) (.sh (.lst (p.map enc))) (.sh (.tup (b.map enc))) (.sh (.tup [.str t, encT v])) (.sh (.int (Km.run (List.range w) (exts A b) []).2.length)) y15 .no .no .no m Q hm1 hm hQ sQ gQ
  have e13 := @law13 W7 (.sh (.scr ns)) (.sh .row) (.sh (.int w)) (.sh (.lst (A.map encT))) y7 (.sh (.tup (A.map encT))) (.sh (.lst (p.map enc))) (.sh (.tup (b.map enc))) (.sh (.tup [.str t, encT v])) (.sh (.int (Km.run (List.range w) (exts A b) []).2.length)) y15 .no .no m Q hm1 hm hQ sQ gQ
  obtain ⟨y16, y20, e14⟩ := @law14 W7 (.sh (.scr ns)) (.sh .row) (.sh (.int w)) (.sh (.lst (A.map encT))) y7 (.sh (.tup (A.map encT))) (.sh (.lst (p.map enc))) (.sh (.tup (b.map enc))) (.sh (.tup [.str t, encT v])) (.sh (.int (Km.run (List.range w) (exts A b) []).2.length)) y15 .no .no m Q hm1 hm hQ sQ gQ
  obtain ⟨W8, e15⟩ := @law15 W7 (.sh (.scr ns)) (.sh (.int m)) (.sh (.int w)) (.sh (.lst (A.map encT))) y7 (.sh (.tup (A.map encT))) (.sh (.lst (p.map enc))) (.sh (.tup (b.map enc))) (.sh (.tup [.str t, encT v])) (.sh (.int (Km.run (List.range w) (exts A b) []).2.length)) y15 y16 (.sh (.tup (Q.map encT))) (.sh (backD (Km.run (List.range m) (exts Q (List.replicate m 0)) []) m)) y20 w7
  refine ⟨W8, ?_⟩
  unfold k_g_law
  rw [seq_nx e1, seq_nx e2, seq_nx e3]
  unfold lawS4 at e4
  rw [seq_nx e4, seq_nx e5]
  unfold lawS6 at e6
  rw [seq_nx e6, seq_nx e7, seq_nx (law8 r1 r2)]
  unfold lawS9 lawS9a lawS9b at e9
  rw [seq_nx e9]
  unfold lawS10 at e10
  rw [seq_nx e10, seq_nx e11, seq_nx e12, seq_nx e13, seq_nx e14]
  unfold lawS15 lawList at e15
  exact seq_rt e15
end Wk

set_option Elab.async false
set_option linter.all false
set_option maxRecDepth 100000
set_option maxHeartbeats 4000000
namespace Wk
open PySem PySem.Spec PyProof.Rows L2
theorem k_sc_is_ratio : FnScope k_N_is_ratio ["thing"] (defScope (k_top 7)) := ⟨rfl, rfl, rfl, by decide +kernel, rfl, by decide +kernel, by decide +kernel⟩
theorem k_sc_ratio : FnScope k_N_ratio ["top", "low"] (defScope (k_top 8)) := ⟨rfl, rfl, rfl, by decide +kernel, rfl, by decide +kernel, by decide +kernel⟩
theorem k_sc_with_units : FnScope k_N_with_units ["rows", "rights"] (defScope (k_top 20)) := ⟨rfl, rfl, rfl, by decide +kernel, rfl, by decide +kernel, by decide +kernel⟩
theorem k_sc__law_taken : FnScope k_N__law_taken ["_law_row", "_law_many"] (defScope (k_top 25)) := ⟨rfl, rfl, rfl, by decide +kernel, rfl, by decide +kernel, by decide +kernel⟩
theorem k_sc__law_low : FnScope k_N__law_low ["_law_top", "_law_low_here"] (defScope (k_top 27)) := ⟨rfl, rfl, rfl, by decide +kernel, rfl, by decide +kernel, by decide +kernel⟩
theorem k_sc_taken : FnScope k_N_taken ["one", "other"] (defScope (k_top 9)) := ⟨rfl, rfl, rfl, by decide +kernel, rfl, by decide +kernel, by decide +kernel⟩
theorem k_sc_times : FnScope k_N_times ["one", "other"] (defScope (k_top 10)) := ⟨rfl, rfl, rfl, by decide +kernel, rfl, by decide +kernel, by decide +kernel⟩
theorem k_sc_over : FnScope k_N_over ["one", "other"] (defScope (k_top 11)) := ⟨rfl, rfl, rfl, by decide +kernel, rfl, by decide +kernel, by decide +kernel⟩
theorem k_sc_is_table : FnScope k_N_is_table ["rows"] (defScope (k_top 14)) := ⟨rfl, rfl, rfl, by decide +kernel, rfl, by decide +kernel, by decide +kernel⟩
theorem k_sc__law_pick : FnScope k_N__law_pick ["_law_row", "_law_things"] (defScope (k_top 26)) := ⟨rfl, rfl, rfl, by decide +kernel, rfl, by decide +kernel, by decide +kernel⟩
theorem k_sc__law_add : FnScope k_N__law_add ["_law_one", "_law_other"] (defScope (k_top 28)) := ⟨rfl, rfl, rfl, by decide +kernel, rfl, by decide +kernel, by decide +kernel⟩
theorem k_sc__law_mul : FnScope k_N__law_mul ["_law_one", "_law_other"] (defScope (k_top 29)) := ⟨rfl, rfl, rfl, by decide +kernel, rfl, by decide +kernel, by decide +kernel⟩
theorem k_sc__law_ratio : FnScope k_N__law_ratio ["_law_row", "_law_most"] (defScope (k_top 31)) := ⟨rfl, rfl, rfl, by decide +kernel, rfl, by decide +kernel, by decide +kernel⟩
theorem k_sc_need_table : FnScope k_N_need_table ["rows"] (defScope (k_top 15)) := ⟨rfl, rfl, rfl, by decide +kernel, rfl, by decide +kernel, by decide +kernel⟩
theorem k_sc_less_times : FnScope k_N_less_times ["row", "other", "number"] (defScope (k_top 16)) := ⟨rfl, rfl, rfl, by decide +kernel, rfl, by decide +kernel, by decide +kernel⟩
theorem k_sc__law_total : FnScope k_N__law_total ["_law_numbers"] (defScope (k_top 30)) := ⟨rfl, rfl, rfl, by decide +kernel, rfl, by decide +kernel, by decide +kernel⟩
theorem k_sc_stepped : FnScope k_N_stepped ["rows", "width"] (defScope (k_top 17)) := ⟨rfl, rfl, rfl, by decide +kernel, rfl, by decide +kernel, by decide +kernel⟩
theorem k_sc__law_times : FnScope k_N__law_times ["_law_rows", "_law_point"] (defScope (k_top 32)) := ⟨rfl, rfl, rfl, by decide +kernel, rfl, by decide +kernel, by decide +kernel⟩
theorem k_sc_rank_of : FnScope k_N_rank_of ["rows"] (defScope (k_top 18)) := ⟨rfl, rfl, rfl, by decide +kernel, rfl, by decide +kernel, by decide +kernel⟩
theorem k_sc_solution : FnScope k_N_solution ["rows", "rights"] (defScope (k_top 21)) := ⟨rfl, rfl, rfl, by decide +kernel, rfl, by decide +kernel, by decide +kernel⟩
theorem k_sc_inverse : FnScope k_N_inverse ["rows"] (defScope (k_top 23)) := ⟨rfl, rfl, rfl, by decide +kernel, rfl, by decide +kernel, by decide +kernel⟩
theorem k_sc_rank : FnScope k_N_rank ["rows"] (defScope (k_top 19)) := ⟨rfl, rfl, rfl, by decide +kernel, rfl, by decide +kernel, by decide +kernel⟩
theorem k_sc_solved : FnScope k_N_solved ["rows", "rights"] (defScope (k_top 22)) := ⟨rfl, rfl, rfl, by decide +kernel, rfl, by decide +kernel, by decide +kernel⟩
theorem k_sc_law : FnScope k_N_law ["_law_script"] (defScope (k_top 33)) := ⟨rfl, rfl, rfl, by decide +kernel, rfl, by decide +kernel, by decide +kernel⟩
set_option maxRecDepth 100000 in
theorem k_all_mk {P : Program} {w : World} {K : PySem.W.Frag} {h : Heap} {mg : Str → Option Value} {fa : Addr} (X : K.In h) (G : h.Ns mainGlobals mg) (hfa : mg "law" = some (.ref fa))
    {f0 f1 f2 f3 f4 f5 f6 f7 f8 f9 f10 f11 f12 f13 f14 f15 f16 f17 f18 f19 f20 f21 f22 f23 : Addr} {od0 an0 od1 an1 od2 an2 od3 an3 od4 an4 od5 an5 od6 an6 od7 an7 od8 an8 od9 an9 od10 an10 od11 an11 od12 an12 od13 an13 od14 an14 od15 an15 od16 an16 od17 an17 od18 an18 od19 an19 od20 an20 od21 an21 od22 an22 od23 an23 : Option Addr} {sl0 sl1 sl2 sl3 sl4 sl5 sl6 sl7 sl8 sl9 sl10 sl11 sl12 sl13 sl14 sl15 sl16 sl17 sl18 sl19 sl20 sl21 sl22 sl23 : Array (Option Value)} {oc0 kV0 dc0 pm0 cd0 ct0 oc1 kV1 dc1 pm1 cd1 ct1 oc2 kV2 dc2 pm2 cd2 ct2 oc3 kV3 dc3 pm3 cd3 ct3 oc4 kV4 dc4 pm4 cd4 ct4 oc5 kV5 dc5 pm5 cd5 ct5 oc6 kV6 dc6 pm6 cd6 ct6 oc7 kV7 dc7 pm7 cd7 ct7 oc8 kV8 dc8 pm8 cd8 ct8 oc9 kV9 dc9 pm9 cd9 ct9 oc10 kV10 dc10 pm10 cd10 ct10 oc11 kV11 dc11 pm11 cd11 ct11 oc12 kV12 dc12 pm12 cd12 ct12 oc13 kV13 dc13 pm13 cd13 ct13 oc14 kV14 dc14 pm14 cd14 ct14 oc15 kV15 dc15 pm15 cd15 ct15 oc16 kV16 dc16 pm16 cd16 ct16 oc17 kV17 dc17 pm17 cd17 ct17 oc18 kV18 dc18 pm18 cd18 ct18 oc19 kV19 dc19 pm19 cd19 ct19 oc20 kV20 dc20 pm20 cd20 ct20 oc21 kV21 dc21 pm21 cd21 ct21 oc22 kV22 dc22 pm22 cd22 ct22 oc23 kV23 dc23 pm23 cd23 ct23 : Value}
    {t0 t1 : Addr} {ud0 ud1 : Option Addr} {un0 un1 : Nat} {us0 us1 : Array (Option Value)}
    {tk0_0 tk0_1 tk1_0 tk1_1 tk2 : Tok}
    {C0 : Addr}
    (a0 : PySem.W.nsIn K mainGlobals "is_ratio" = some (some (.ref f0)))
    (l0 : K.lookup f0 = some ⟨oc0, od0, .func (PySem.W.fnOf "is_ratio" "is_ratio" (defArgs (k_top 7)) (defBody (k_top 7)) (defScope (k_top 7)) .none kV0 dc0 pm0 an0 cd0 ct0), sl0⟩)
    (c0 : PySem.W.codeIn K cd0 "is_ratio" = true)
    (k0 : PySem.W.keepIn K (.ref f0) = true)
    (a1 : PySem.W.nsIn K mainGlobals "ratio" = some (some (.ref f1)))
    (l1 : K.lookup f1 = some ⟨oc1, od1, .func (PySem.W.fnOf "ratio" "ratio" (defArgs (k_top 8)) (defBody (k_top 8)) (defScope (k_top 8)) .none kV1 dc1 pm1 an1 cd1 ct1), sl1⟩)
    (c1 : PySem.W.codeIn K cd1 "ratio" = true)
    (k1 : PySem.W.keepIn K (.ref f1) = true)
    (a2 : PySem.W.nsIn K mainGlobals "with_units" = some (some (.ref f2)))
    (l2 : K.lookup f2 = some ⟨oc2, od2, .func (PySem.W.fnOf "with_units" "with_units" (defArgs (k_top 20)) (defBody (k_top 20)) (defScope (k_top 20)) .none kV2 dc2 pm2 an2 cd2 ct2), sl2⟩)
    (c2 : PySem.W.codeIn K cd2 "with_units" = true)
    (k2 : PySem.W.keepIn K (.ref f2) = true)
    (a3 : PySem.W.nsIn K mainGlobals "_law_taken" = some (some (.ref f3)))
    (l3 : K.lookup f3 = some ⟨oc3, od3, .func (PySem.W.fnOf "_law_taken" "_law_taken" (defArgs (k_top 25)) (defBody (k_top 25)) (defScope (k_top 25)) .none kV3 dc3 pm3 an3 cd3 ct3), sl3⟩)
    (c3 : PySem.W.codeIn K cd3 "_law_taken" = true)
    (k3 : PySem.W.keepIn K (.ref f3) = true)
    (a4 : PySem.W.nsIn K mainGlobals "_law_low" = some (some (.ref f4)))
    (l4 : K.lookup f4 = some ⟨oc4, od4, .func (PySem.W.fnOf "_law_low" "_law_low" (defArgs (k_top 27)) (defBody (k_top 27)) (defScope (k_top 27)) .none kV4 dc4 pm4 an4 cd4 ct4), sl4⟩)
    (c4 : PySem.W.codeIn K cd4 "_law_low" = true)
    (k4 : PySem.W.keepIn K (.ref f4) = true)
    (a5 : PySem.W.nsIn K mainGlobals "taken" = some (some (.ref f5)))
    (l5 : K.lookup f5 = some ⟨oc5, od5, .func (PySem.W.fnOf "taken" "taken" (defArgs (k_top 9)) (defBody (k_top 9)) (defScope (k_top 9)) .none kV5 dc5 pm5 an5 cd5 ct5), sl5⟩)
    (c5 : PySem.W.codeIn K cd5 "taken" = true)
    (k5 : PySem.W.keepIn K (.ref f5) = true)
    (a6 : PySem.W.nsIn K mainGlobals "times" = some (some (.ref f6)))
    (l6 : K.lookup f6 = some ⟨oc6, od6, .func (PySem.W.fnOf "times" "times" (defArgs (k_top 10)) (defBody (k_top 10)) (defScope (k_top 10)) .none kV6 dc6 pm6 an6 cd6 ct6), sl6⟩)
    (c6 : PySem.W.codeIn K cd6 "times" = true)
    (k6 : PySem.W.keepIn K (.ref f6) = true)
    (a7 : PySem.W.nsIn K mainGlobals "over" = some (some (.ref f7)))
    (l7 : K.lookup f7 = some ⟨oc7, od7, .func (PySem.W.fnOf "over" "over" (defArgs (k_top 11)) (defBody (k_top 11)) (defScope (k_top 11)) .none kV7 dc7 pm7 an7 cd7 ct7), sl7⟩)
    (c7 : PySem.W.codeIn K cd7 "over" = true)
    (k7 : PySem.W.keepIn K (.ref f7) = true)
    (a8 : PySem.W.nsIn K mainGlobals "is_table" = some (some (.ref f8)))
    (l8 : K.lookup f8 = some ⟨oc8, od8, .func (PySem.W.fnOf "is_table" "is_table" (defArgs (k_top 14)) (defBody (k_top 14)) (defScope (k_top 14)) .none kV8 dc8 pm8 an8 cd8 ct8), sl8⟩)
    (c8 : PySem.W.codeIn K cd8 "is_table" = true)
    (k8 : PySem.W.keepIn K (.ref f8) = true)
    (a9 : PySem.W.nsIn K mainGlobals "_law_pick" = some (some (.ref f9)))
    (l9 : K.lookup f9 = some ⟨oc9, od9, .func (PySem.W.fnOf "_law_pick" "_law_pick" (defArgs (k_top 26)) (defBody (k_top 26)) (defScope (k_top 26)) .none kV9 dc9 pm9 an9 cd9 ct9), sl9⟩)
    (c9 : PySem.W.codeIn K cd9 "_law_pick" = true)
    (k9 : PySem.W.keepIn K (.ref f9) = true)
    (a10 : PySem.W.nsIn K mainGlobals "_law_add" = some (some (.ref f10)))
    (l10 : K.lookup f10 = some ⟨oc10, od10, .func (PySem.W.fnOf "_law_add" "_law_add" (defArgs (k_top 28)) (defBody (k_top 28)) (defScope (k_top 28)) .none kV10 dc10 pm10 an10 cd10 ct10), sl10⟩)
    (c10 : PySem.W.codeIn K cd10 "_law_add" = true)
    (k10 : PySem.W.keepIn K (.ref f10) = true)
    (a11 : PySem.W.nsIn K mainGlobals "_law_mul" = some (some (.ref f11)))
    (l11 : K.lookup f11 = some ⟨oc11, od11, .func (PySem.W.fnOf "_law_mul" "_law_mul" (defArgs (k_top 29)) (defBody (k_top 29)) (defScope (k_top 29)) .none kV11 dc11 pm11 an11 cd11 ct11), sl11⟩)
    (c11 : PySem.W.codeIn K cd11 "_law_mul" = true)
    (k11 : PySem.W.keepIn K (.ref f11) = true)
    (a12 : PySem.W.nsIn K mainGlobals "_law_ratio" = some (some (.ref f12)))
    (l12 : K.lookup f12 = some ⟨oc12, od12, .func (PySem.W.fnOf "_law_ratio" "_law_ratio" (defArgs (k_top 31)) (defBody (k_top 31)) (defScope (k_top 31)) .none kV12 dc12 pm12 an12 cd12 ct12), sl12⟩)
    (c12 : PySem.W.codeIn K cd12 "_law_ratio" = true)
    (k12 : PySem.W.keepIn K (.ref f12) = true)
    (a13 : PySem.W.nsIn K mainGlobals "need_table" = some (some (.ref f13)))
    (l13 : K.lookup f13 = some ⟨oc13, od13, .func (PySem.W.fnOf "need_table" "need_table" (defArgs (k_top 15)) (defBody (k_top 15)) (defScope (k_top 15)) .none kV13 dc13 pm13 an13 cd13 ct13), sl13⟩)
    (c13 : PySem.W.codeIn K cd13 "need_table" = true)
    (k13 : PySem.W.keepIn K (.ref f13) = true)
    (a14 : PySem.W.nsIn K mainGlobals "less_times" = some (some (.ref f14)))
    (l14 : K.lookup f14 = some ⟨oc14, od14, .func (PySem.W.fnOf "less_times" "less_times" (defArgs (k_top 16)) (defBody (k_top 16)) (defScope (k_top 16)) .none kV14 dc14 pm14 an14 cd14 ct14), sl14⟩)
    (c14 : PySem.W.codeIn K cd14 "less_times" = true)
    (k14 : PySem.W.keepIn K (.ref f14) = true)
    (a15 : PySem.W.nsIn K mainGlobals "_law_total" = some (some (.ref f15)))
    (l15 : K.lookup f15 = some ⟨oc15, od15, .func (PySem.W.fnOf "_law_total" "_law_total" (defArgs (k_top 30)) (defBody (k_top 30)) (defScope (k_top 30)) .none kV15 dc15 pm15 an15 cd15 ct15), sl15⟩)
    (c15 : PySem.W.codeIn K cd15 "_law_total" = true)
    (k15 : PySem.W.keepIn K (.ref f15) = true)
    (a16 : PySem.W.nsIn K mainGlobals "stepped" = some (some (.ref f16)))
    (l16 : K.lookup f16 = some ⟨oc16, od16, .func (PySem.W.fnOf "stepped" "stepped" (defArgs (k_top 17)) (defBody (k_top 17)) (defScope (k_top 17)) .none kV16 dc16 pm16 an16 cd16 ct16), sl16⟩)
    (c16 : PySem.W.codeIn K cd16 "stepped" = true)
    (k16 : PySem.W.keepIn K (.ref f16) = true)
    (a17 : PySem.W.nsIn K mainGlobals "_law_times" = some (some (.ref f17)))
    (l17 : K.lookup f17 = some ⟨oc17, od17, .func (PySem.W.fnOf "_law_times" "_law_times" (defArgs (k_top 32)) (defBody (k_top 32)) (defScope (k_top 32)) .none kV17 dc17 pm17 an17 cd17 ct17), sl17⟩)
    (c17 : PySem.W.codeIn K cd17 "_law_times" = true)
    (k17 : PySem.W.keepIn K (.ref f17) = true)
    (a18 : PySem.W.nsIn K mainGlobals "rank_of" = some (some (.ref f18)))
    (l18 : K.lookup f18 = some ⟨oc18, od18, .func (PySem.W.fnOf "rank_of" "rank_of" (defArgs (k_top 18)) (defBody (k_top 18)) (defScope (k_top 18)) .none kV18 dc18 pm18 an18 cd18 ct18), sl18⟩)
    (c18 : PySem.W.codeIn K cd18 "rank_of" = true)
    (k18 : PySem.W.keepIn K (.ref f18) = true)
    (a19 : PySem.W.nsIn K mainGlobals "solution" = some (some (.ref f19)))
    (l19 : K.lookup f19 = some ⟨oc19, od19, .func (PySem.W.fnOf "solution" "solution" (defArgs (k_top 21)) (defBody (k_top 21)) (defScope (k_top 21)) .none kV19 dc19 pm19 an19 cd19 ct19), sl19⟩)
    (c19 : PySem.W.codeIn K cd19 "solution" = true)
    (k19 : PySem.W.keepIn K (.ref f19) = true)
    (a20 : PySem.W.nsIn K mainGlobals "inverse" = some (some (.ref f20)))
    (l20 : K.lookup f20 = some ⟨oc20, od20, .func (PySem.W.fnOf "inverse" "inverse" (defArgs (k_top 23)) (defBody (k_top 23)) (defScope (k_top 23)) .none kV20 dc20 pm20 an20 cd20 ct20), sl20⟩)
    (c20 : PySem.W.codeIn K cd20 "inverse" = true)
    (k20 : PySem.W.keepIn K (.ref f20) = true)
    (a21 : PySem.W.nsIn K mainGlobals "rank" = some (some (.ref f21)))
    (l21 : K.lookup f21 = some ⟨oc21, od21, .func (PySem.W.fnOf "rank" "rank" (defArgs (k_top 19)) (defBody (k_top 19)) (defScope (k_top 19)) .none kV21 dc21 pm21 an21 cd21 ct21), sl21⟩)
    (c21 : PySem.W.codeIn K cd21 "rank" = true)
    (k21 : PySem.W.keepIn K (.ref f21) = true)
    (a22 : PySem.W.nsIn K mainGlobals "solved" = some (some (.ref f22)))
    (l22 : K.lookup f22 = some ⟨oc22, od22, .func (PySem.W.fnOf "solved" "solved" (defArgs (k_top 22)) (defBody (k_top 22)) (defScope (k_top 22)) .none kV22 dc22 pm22 an22 cd22 ct22), sl22⟩)
    (c22 : PySem.W.codeIn K cd22 "solved" = true)
    (k22 : PySem.W.keepIn K (.ref f22) = true)
    (a23 : PySem.W.nsIn K mainGlobals "law" = some (some (.ref f23)))
    (l23 : K.lookup f23 = some ⟨oc23, od23, .func (PySem.W.fnOf "law" "law" (defArgs (k_top 33)) (defBody (k_top 33)) (defScope (k_top 33)) .none kV23 dc23 pm23 an23 cd23 ct23), sl23⟩)
    (c23 : PySem.W.codeIn K cd23 "law" = true)
    (k23 : PySem.W.keepIn K (.ref f23) = true)
    (z0 : PySem.W.nsIn K mainGlobals "len" = some none)
    (z1 : PySem.W.nsIn K mainGlobals "isinstance" = some none)
    (z2 : PySem.W.nsIn K mainGlobals "tuple" = some none)
    (z3 : PySem.W.nsIn K mainGlobals "list" = some none)
    (z4 : PySem.W.nsIn K mainGlobals "int" = some none)
    (z5 : PySem.W.nsIn K mainGlobals "max" = some none)
    (z6 : PySem.W.nsIn K mainGlobals "min" = some none)
    (z7 : PySem.W.nsIn K mainGlobals "all" = some none)
    (z8 : PySem.W.nsIn K mainGlobals "range" = some none)
    (z9 : PySem.W.nsIn K mainGlobals "zip" = some none)
    (z10 : PySem.W.nsIn K mainGlobals "bool" = some none)
    (g0 : PySem.W.nsIn K mainGlobals "NOUGHT" = some (some (.ref t0)))
    (o0 : K.lookup t0 = some ⟨.type "tuple", ud0, .seq #[.int 0 tk0_0, .int 1 tk0_1] un0, us0⟩)
    (g1 : PySem.W.nsIn K mainGlobals "ONE" = some (some (.ref t1)))
    (o1 : K.lookup t1 = some ⟨.type "tuple", ud1, .seq #[.int 1 tk1_0, .int 1 tk1_1] un1, us1⟩)
    (g2 : PySem.W.nsIn K mainGlobals "MOST" = some (some (.int 40 tk2)))
    (gc : PySem.W.nsIn K mainGlobals "gcd" = some (some (.builtin "math.gcd")))
    (eC0 : PySem.W.nsIn K mainGlobals "BadTable" = some (some (.ref C0)))
    (eX0 : PySem.W.excIn K C0 [.type "ValueError", .type "Exception", .type "BaseException", .type "object"] "ValueError.__new__" = true)
    (eK0 : PySem.W.keepIn K (.ref C0) = true)
    (eB0 : PySem.W.subIn K (.ref C0) (.type "BaseException") = some true)
    (eT0 : PySem.W.typeIn K (.ref C0) = some (.type "type"))
    (eI0 : PySem.W.isClsIn K C0 = true)
    (eS0_0 : PySem.W.subIn K (.ref C0) (.ref C0) = some true)
    (hm : ∀ ns : List Int, ns.length ≤ 63 → ∃ W, k_g_law (env0 23 [.scr ns]) none = some (.rt (.bl true) .sh W)) :
    ∃ fd : FuncData, (∀ (s : Shared) (u : Value), BindsTo s fd ⟨[u], []⟩ [("_law_script", u)]) ∧ ∀ base : Heap, K.In base → base.Ns mainGlobals mg → FnOk P w K mg base (L2.CX P w) 24 fa fd ["_law_script"] (spTop K 63) := by
  have e := hfa.symm.trans (PySem.W.mg_of X G a23)
  cases e
  have Gb0 : ∀ c : Cfg, c.gls = k_gls → c.bl = k_bl → c.gcd = true → Gb K mg c := by
    intro c h1 h2 h3
    refine ⟨fun x d h => ?_, fun x hx => ?_, fun hx => ?_⟩
    · rw [h1] at h
      have hm := PySem.mem_of_lookup h
      simp only [k_gls, List.mem_cons, Prod.mk.injEq, List.not_mem_nil, or_false] at hm
      rcases hm with ⟨rfl, rfl⟩ | ⟨rfl, rfl⟩ | ⟨rfl, rfl⟩
      · exact ⟨_, .ref t0, PySem.W.mg_of X G g0, rfl, fun r Z H => gl_tup (vs := [.int 0, .int 1]) o0 rfl (by show _ ≤ sizeLine; rw [sizeLine_eq]; exact Nat.le_of_ble_eq_true rfl) (.cons ⟨_, rfl⟩ (.cons ⟨_, rfl⟩ (.nil))) (RepL.cons (by simp [Rep]) (RepL.cons (by simp [Rep]) (RepL.nil)))⟩
      · exact ⟨_, .ref t1, PySem.W.mg_of X G g1, rfl, fun r Z H => gl_tup (vs := [.int 1, .int 1]) o1 rfl (by show _ ≤ sizeLine; rw [sizeLine_eq]; exact Nat.le_of_ble_eq_true rfl) (.cons ⟨_, rfl⟩ (.cons ⟨_, rfl⟩ (.nil))) (RepL.cons (by simp [Rep]) (RepL.cons (by simp [Rep]) (RepL.nil)))⟩
      · exact ⟨_, .int 40, PySem.W.mg_of X G g2, ⟨_, rfl⟩, fun r Z H => by simp [Rep]⟩
    · rw [h2] at hx
      simp only [k_bl, List.mem_cons, List.not_mem_nil, or_false] at hx
      rcases hx with rfl | rfl | rfl | rfl | rfl | rfl | rfl | rfl | rfl | rfl | rfl
      · exact PySem.W.mg_none_of X G z0
      · exact PySem.W.mg_none_of X G z1
      · exact PySem.W.mg_none_of X G z2
      · exact PySem.W.mg_none_of X G z3
      · exact PySem.W.mg_none_of X G z4
      · exact PySem.W.mg_none_of X G z5
      · exact PySem.W.mg_none_of X G z6
      · exact PySem.W.mg_none_of X G z7
      · exact PySem.W.mg_none_of X G z8
      · exact PySem.W.mg_none_of X G z9
      · exact PySem.W.mg_none_of X G z10
    · exact PySem.W.mg_of X G gc
  have Eb0 : ∀ s : Cs, s.rz = k_rz → s.hd = k_hd → Eb K mg s := by
    intro s h1 h2
    refine ⟨fun x hx => ?_, fun x ct h => ?_⟩
    · rw [h1] at hx
      simp only [k_rz, List.mem_cons, List.not_mem_nil, or_false] at hx
      rcases hx with rfl
      · exact ⟨_, _, _, _, _, PySem.F.excBase_ValueError, eX0, PySem.W.mg_of X G eC0, eK0, eB0, eT0⟩
    · rw [h2] at h
      have hm := PySem.mem_of_lookup h
      simp only [k_hd, List.mem_cons, Prod.mk.injEq, List.not_mem_nil, or_false] at hm
      rcases hm with ⟨rfl, rfl⟩
      · refine ⟨_, .inl (PySem.W.mg_of X G eC0), fun c b C h1 h2 => ?_⟩
        unfold k_ct_BadTable at h1
        split at h1
        · rename_i hc
          have hc : c = "BadTable" := by simpa using hc
          subst hc
          cases h1
          cases h2.symm.trans (PySem.W.mg_of X G eC0)
          exact exm_of eB0 eI0 eT0 eS0_0
        · cases h1
  have F0 := fun_mk (st := k_top 7) l0 c0 k0
  have b0 := F0.binds (ps := ["thing"]) fun _ _ _ _ _ _ us hl => match us, hl with | [_], _ => rfl
  have F1 := fun_mk (st := k_top 8) l1 c1 k1
  have b1 := F1.binds (ps := ["top", "low"]) fun _ _ _ _ _ _ us hl => match us, hl with | [_, _], _ => rfl
  have F2 := fun_mk (st := k_top 20) l2 c2 k2
  have b2 := F2.binds (ps := ["rows", "rights"]) fun _ _ _ _ _ _ us hl => match us, hl with | [_, _], _ => rfl
  have F3 := fun_mk (st := k_top 25) l3 c3 k3
  have b3 := F3.binds (ps := ["_law_row", "_law_many"]) fun _ _ _ _ _ _ us hl => match us, hl with | [_, _], _ => rfl
  have F4 := fun_mk (st := k_top 27) l4 c4 k4
  have b4 := F4.binds (ps := ["_law_top", "_law_low_here"]) fun _ _ _ _ _ _ us hl => match us, hl with | [_, _], _ => rfl
  have F5 := fun_mk (st := k_top 9) l5 c5 k5
  have b5 := F5.binds (ps := ["one", "other"]) fun _ _ _ _ _ _ us hl => match us, hl with | [_, _], _ => rfl
  have F6 := fun_mk (st := k_top 10) l6 c6 k6
  have b6 := F6.binds (ps := ["one", "other"]) fun _ _ _ _ _ _ us hl => match us, hl with | [_, _], _ => rfl
  have F7 := fun_mk (st := k_top 11) l7 c7 k7
  have b7 := F7.binds (ps := ["one", "other"]) fun _ _ _ _ _ _ us hl => match us, hl with | [_, _], _ => rfl
  have F8 := fun_mk (st := k_top 14) l8 c8 k8
  have b8 := F8.binds (ps := ["rows"]) fun _ _ _ _ _ _ us hl => match us, hl with | [_], _ => rfl
  have F9 := fun_mk (st := k_top 26) l9 c9 k9
  have b9 := F9.binds (ps := ["_law_row", "_law_things"]) fun _ _ _ _ _ _ us hl => match us, hl with | [_, _], _ => rfl
  have F10 := fun_mk (st := k_top 28) l10 c10 k10
  have b10 := F10.binds (ps := ["_law_one", "_law_other"]) fun _ _ _ _ _ _ us hl => match us, hl with | [_, _], _ => rfl
  have F11 := fun_mk (st := k_top 29) l11 c11 k11
  have b11 := F11.binds (ps := ["_law_one", "_law_other"]) fun _ _ _ _ _ _ us hl => match us, hl with | [_, _], _ => rfl
  have F12 := fun_mk (st := k_top 31) l12 c12 k12
  have b12 := F12.binds (ps := ["_law_row", "_law_most"]) fun _ _ _ _ _ _ us hl => match us, hl with | [_, _], _ => rfl
  have F13 := fun_mk (st := k_top 15) l13 c13 k13
  have b13 := F13.binds (ps := ["rows"]) fun _ _ _ _ _ _ us hl => match us, hl with | [_], _ => rfl
  have F14 := fun_mk (st := k_top 16) l14 c14 k14
  have b14 := F14.binds (ps := ["row", "other", "number"]) fun _ _ _ _ _ _ us hl => match us, hl with | [_, _, _], _ => rfl
  have F15 := fun_mk (st := k_top 30) l15 c15 k15
  have b15 := F15.binds (ps := ["_law_numbers"]) fun _ _ _ _ _ _ us hl => match us, hl with | [_], _ => rfl
  have F16 := fun_mk (st := k_top 17) l16 c16 k16
  have b16 := F16.binds (ps := ["rows", "width"]) fun _ _ _ _ _ _ us hl => match us, hl with | [_, _], _ => rfl
  have F17 := fun_mk (st := k_top 32) l17 c17 k17
  have b17 := F17.binds (ps := ["_law_rows", "_law_point"]) fun _ _ _ _ _ _ us hl => match us, hl with | [_, _], _ => rfl
  have F18 := fun_mk (st := k_top 18) l18 c18 k18
  have b18 := F18.binds (ps := ["rows"]) fun _ _ _ _ _ _ us hl => match us, hl with | [_], _ => rfl
  have F19 := fun_mk (st := k_top 21) l19 c19 k19
  have b19 := F19.binds (ps := ["rows", "rights"]) fun _ _ _ _ _ _ us hl => match us, hl with | [_, _], _ => rfl
  have F20 := fun_mk (st := k_top 23) l20 c20 k20
  have b20 := F20.binds (ps := ["rows"]) fun _ _ _ _ _ _ us hl => match us, hl with | [_], _ => rfl
  have F21 := fun_mk (st := k_top 19) l21 c21 k21
  have b21 := F21.binds (ps := ["rows"]) fun _ _ _ _ _ _ us hl => match us, hl with | [_], _ => rfl
  have F22 := fun_mk (st := k_top 22) l22 c22 k22
  have b22 := F22.binds (ps := ["rows", "rights"]) fun _ _ _ _ _ _ us hl => match us, hl with | [_, _], _ => rfl
  have F23 := fun_mk (st := k_top 33) l23 c23 k23
  refine ⟨PySem.W.fnOf "law" "law" (defArgs (k_top 33)) (defBody (k_top 33)) (defScope (k_top 33)) .none kV23 dc23 pm23 an23 cd23 ct23, fun s u => .of_eq rfl, fun base _ _ => ?_⟩
  have T0 : Tb P w K mg base 0 [] := Tb.nil
  have T1 : Tb P w K mg base 1 k_T_is_ratio := (T0.mono (Nat.le_succ 0)).cons (fn_den (s := k_s_is_ratio) F0 k_sc_is_ratio rfl rfl T0 (Gb0 _ rfl rfl rfl) (Eb0 _ rfl rfl) k_d_is_ratio) (PySem.W.mg_of X G a0) k0 b0
  have T2 : Tb P w K mg base 2 k_T_ratio := (T1.mono (Nat.le_succ 1)).cons (fn_den (s := k_s_ratio) F1 k_sc_ratio rfl rfl T1 (Gb0 _ rfl rfl rfl) (Eb0 _ rfl rfl) k_d_ratio) (PySem.W.mg_of X G a1) k1 b1
  have T3 : Tb P w K mg base 3 k_T_with_units := (T2.mono (Nat.le_succ 2)).cons (fn_den (s := k_s_with_units) F2 k_sc_with_units rfl rfl T2 (Gb0 _ rfl rfl rfl) (Eb0 _ rfl rfl) k_d_with_units) (PySem.W.mg_of X G a2) k2 b2
  have T4 : Tb P w K mg base 4 k_T__law_taken := (T3.mono (Nat.le_succ 3)).cons (fn_den (s := k_s__law_taken) F3 k_sc__law_taken rfl rfl T3 (Gb0 _ rfl rfl rfl) (Eb0 _ rfl rfl) k_d__law_taken) (PySem.W.mg_of X G a3) k3 b3
  have T5 : Tb P w K mg base 5 k_T__law_low := (T4.mono (Nat.le_succ 4)).cons (fn_den (s := k_s__law_low) F4 k_sc__law_low rfl rfl T4 (Gb0 _ rfl rfl rfl) (Eb0 _ rfl rfl) k_d__law_low) (PySem.W.mg_of X G a4) k4 b4
  have T6 : Tb P w K mg base 6 k_T_taken := (T5.mono (Nat.le_succ 5)).cons (fn_den (s := k_s_taken) F5 k_sc_taken rfl rfl T5 (Gb0 _ rfl rfl rfl) (Eb0 _ rfl rfl) k_d_taken) (PySem.W.mg_of X G a5) k5 b5
  have T7 : Tb P w K mg base 7 k_T_times := (T6.mono (Nat.le_succ 6)).cons (fn_den (s := k_s_times) F6 k_sc_times rfl rfl T6 (Gb0 _ rfl rfl rfl) (Eb0 _ rfl rfl) k_d_times) (PySem.W.mg_of X G a6) k6 b6
  have T8 : Tb P w K mg base 8 k_T_over := (T7.mono (Nat.le_succ 7)).cons (fn_den (s := k_s_over) F7 k_sc_over rfl rfl T7 (Gb0 _ rfl rfl rfl) (Eb0 _ rfl rfl) k_d_over) (PySem.W.mg_of X G a7) k7 b7
  have T9 : Tb P w K mg base 9 k_T_is_table := (T8.mono (Nat.le_succ 8)).cons (fn_den (s := k_s_is_table) F8 k_sc_is_table rfl rfl T8 (Gb0 _ rfl rfl rfl) (Eb0 _ rfl rfl) k_d_is_table) (PySem.W.mg_of X G a8) k8 b8
  have T10 : Tb P w K mg base 10 k_T__law_pick := (T9.mono (Nat.le_succ 9)).cons (fn_den (s := k_s__law_pick) F9 k_sc__law_pick rfl rfl T9 (Gb0 _ rfl rfl rfl) (Eb0 _ rfl rfl) k_d__law_pick) (PySem.W.mg_of X G a9) k9 b9
  have T11 : Tb P w K mg base 11 k_T__law_add := (T10.mono (Nat.le_succ 10)).cons (fn_den (s := k_s__law_add) F10 k_sc__law_add rfl rfl T10 (Gb0 _ rfl rfl rfl) (Eb0 _ rfl rfl) k_d__law_add) (PySem.W.mg_of X G a10) k10 b10
  have T12 : Tb P w K mg base 12 k_T__law_mul := (T11.mono (Nat.le_succ 11)).cons (fn_den (s := k_s__law_mul) F11 k_sc__law_mul rfl rfl T11 (Gb0 _ rfl rfl rfl) (Eb0 _ rfl rfl) k_d__law_mul) (PySem.W.mg_of X G a11) k11 b11
  have T13 : Tb P w K mg base 13 k_T__law_ratio := (T12.mono (Nat.le_succ 12)).cons (fn_den (s := k_s__law_ratio) F12 k_sc__law_ratio rfl rfl T12 (Gb0 _ rfl rfl rfl) (Eb0 _ rfl rfl) k_d__law_ratio) (PySem.W.mg_of X G a12) k12 b12
  have T14 : Tb P w K mg base 14 k_T_need_table := (T13.mono (Nat.le_succ 13)).cons (fn_den (s := k_s_need_table) F13 k_sc_need_table rfl rfl T13 (Gb0 _ rfl rfl rfl) (Eb0 _ rfl rfl) k_d_need_table) (PySem.W.mg_of X G a13) k13 b13
  have T15 : Tb P w K mg base 15 k_T_less_times := (T14.mono (Nat.le_succ 14)).cons (fn_den (s := k_s_less_times) F14 k_sc_less_times rfl rfl T14 (Gb0 _ rfl rfl rfl) (Eb0 _ rfl rfl) k_d_less_times) (PySem.W.mg_of X G a14) k14 b14
  have T16 : Tb P w K mg base 16 k_T__law_total := (T15.mono (Nat.le_succ 15)).cons (fn_den (s := k_s__law_total) F15 k_sc__law_total rfl rfl T15 (Gb0 _ rfl rfl rfl) (Eb0 _ rfl rfl) k_d__law_total) (PySem.W.mg_of X G a15) k15 b15
  have T17 : Tb P w K mg base 17 k_T_stepped := (T16.mono (Nat.le_succ 16)).cons (fn_den (s := k_s_stepped) F16 k_sc_stepped rfl rfl T16 (Gb0 _ rfl rfl rfl) (Eb0 _ rfl rfl) k_d_stepped) (PySem.W.mg_of X G a16) k16 b16
  have T18 : Tb P w K mg base 18 k_T__law_times := (T17.mono (Nat.le_succ 17)).cons (fn_den (s := k_s__law_times) F17 k_sc__law_times rfl rfl T17 (Gb0 _ rfl rfl rfl) (Eb0 _ rfl rfl) k_d__law_times) (PySem.W.mg_of X G a17) k17 b17
  have T19 : Tb P w K mg base 19 k_T_rank_of := (T18.mono (Nat.le_succ 18)).cons (fn_den (s := k_s_rank_of) F18 k_sc_rank_of rfl rfl T18 (Gb0 _ rfl rfl rfl) (Eb0 _ rfl rfl) k_d_rank_of) (PySem.W.mg_of X G a18) k18 b18
  have T20 : Tb P w K mg base 20 k_T_solution := (T19.mono (Nat.le_succ 19)).cons (fn_den (s := k_s_solution) F19 k_sc_solution rfl rfl T19 (Gb0 _ rfl rfl rfl) (Eb0 _ rfl rfl) k_d_solution) (PySem.W.mg_of X G a19) k19 b19
  have T21 : Tb P w K mg base 21 k_T_inverse := (T20.mono (Nat.le_succ 20)).cons (fn_den (s := k_s_inverse) F20 k_sc_inverse rfl rfl T20 (Gb0 _ rfl rfl rfl) (Eb0 _ rfl rfl) k_d_inverse) (PySem.W.mg_of X G a20) k20 b20
  have T22 : Tb P w K mg base 22 k_T_rank := (T21.mono (Nat.le_succ 21)).cons (fn_den (s := k_s_rank) F21 k_sc_rank rfl rfl T21 (Gb0 _ rfl rfl rfl) (Eb0 _ rfl rfl) k_d_rank) (PySem.W.mg_of X G a21) k21 b21
  have T23 : Tb P w K mg base 23 k_T_solved := (T22.mono (Nat.le_succ 22)).cons (fn_den (s := k_s_solved) F22 k_sc_solved rfl rfl T22 (Gb0 _ rfl rfl rfl) (Eb0 _ rfl rfl) k_d_solved) (PySem.W.mg_of X G a22) k22 b22
  exact law_den (s := k_s_law) (n := 63) F23 k_sc_law rfl rfl T23 (Gb0 _ rfl rfl rfl) (Eb0 _ rfl rfl) k_d_law hm
end Wk
open PySem PySem.W PyProof.Rows
set_option maxHeartbeats 0 in
theorem PySem.Challenge.cw_wattkeep_k01_whole_systems_holds : PySem.Challenge.rw_wattkeep_k01_whole_systems.Holds := by
  w_on; o_law; k_head; (case hw => w_witness2)
  k_fill
  refine Wk.walk_law (l := PySem.Challenge.rw_wattkeep_k01_whole_systems) (n := 63) (k := 24) (x := "_law_script") rfl (by show _ ≤ sizeLine; rw [sizeLine_eq]; decide) rfl ⟨rfl, by decide, by decide⟩ (fun w h Y => PySem.W.kIn_of Y) ?F
  case F =>
    intro w mg fa h KX G hmg
    refine' Wk.k_all_mk KX G hmg ?a0 ?l0 ?c0 ?k0 ?a1 ?l1 ?c1 ?k1 ?a2 ?l2 ?c2 ?k2 ?a3 ?l3 ?c3 ?k3 ?a4 ?l4 ?c4 ?k4 ?a5 ?l5 ?c5 ?k5 ?a6 ?l6 ?c6 ?k6 ?a7 ?l7 ?c7 ?k7 ?a8 ?l8 ?c8 ?k8 ?a9 ?l9 ?c9 ?k9 ?a10 ?l10 ?c10 ?k10 ?a11 ?l11 ?c11 ?k11 ?a12 ?l12 ?c12 ?k12 ?a13 ?l13 ?c13 ?k13 ?a14 ?l14 ?c14 ?k14 ?a15 ?l15 ?c15 ?k15 ?a16 ?l16 ?c16 ?k16 ?a17 ?l17 ?c17 ?k17 ?a18 ?l18 ?c18 ?k18 ?a19 ?l19 ?c19 ?k19 ?a20 ?l20 ?c20 ?k20 ?a21 ?l21 ?c21 ?k21 ?a22 ?l22 ?c22 ?k22 ?a23 ?l23 ?c23 ?k23 ?z0 ?z1 ?z2 ?z3 ?z4 ?z5 ?z6 ?z7 ?z8 ?z9 ?z10 ?g0 ?o0 ?g1 ?o1 ?g2 ?gc ?eC0 ?eX0 ?eK0 ?eB0 ?eT0 ?eI0 ?eS0_0 ?hm
    (case a0 => k_is)
    (case l0 => k_is)
    (case c0 => k_is)
    (case k0 => k_is)
    (case a1 => k_is)
    (case l1 => k_is)
    (case c1 => k_is)
    (case k1 => k_is)
    (case a2 => k_is)
    (case l2 => k_is)
    (case c2 => k_is)
    (case k2 => k_is)
    (case a3 => k_is)
    (case l3 => k_is)
    (case c3 => k_is)
    (case k3 => k_is)
    (case a4 => k_is)
    (case l4 => k_is)
    (case c4 => k_is)
    (case k4 => k_is)
    (case a5 => k_is)
    (case l5 => k_is)
    (case c5 => k_is)
    (case k5 => k_is)
    (case a6 => k_is)
    (case l6 => k_is)
    (case c6 => k_is)
    (case k6 => k_is)
    (case a7 => k_is)
    (case l7 => k_is)
    (case c7 => k_is)
    (case k7 => k_is)
    (case a8 => k_is)
    (case l8 => k_is)
    (case c8 => k_is)
    (case k8 => k_is)
    (case a9 => k_is)
    (case l9 => k_is)
    (case c9 => k_is)
    (case k9 => k_is)
    (case a10 => k_is)
    (case l10 => k_is)
    (case c10 => k_is)
    (case k10 => k_is)
    (case a11 => k_is)
    (case l11 => k_is)
    (case c11 => k_is)
    (case k11 => k_is)
    (case a12 => k_is)
    (case l12 => k_is)
    (case c12 => k_is)
    (case k12 => k_is)
    (case a13 => k_is)
    (case l13 => k_is)
    (case c13 => k_is)
    (case k13 => k_is)
    (case a14 => k_is)
    (case l14 => k_is)
    (case c14 => k_is)
    (case k14 => k_is)
    (case a15 => k_is)
    (case l15 => k_is)
    (case c15 => k_is)
    (case k15 => k_is)
    (case a16 => k_is)
    (case l16 => k_is)
    (case c16 => k_is)
    (case k16 => k_is)
    (case a17 => k_is)
    (case l17 => k_is)
    (case c17 => k_is)
    (case k17 => k_is)
    (case a18 => k_is)
    (case l18 => k_is)
    (case c18 => k_is)
    (case k18 => k_is)
    (case a19 => k_is)
    (case l19 => k_is)
    (case c19 => k_is)
    (case k19 => k_is)
    (case a20 => k_is)
    (case l20 => k_is)
    (case c20 => k_is)
    (case k20 => k_is)
    (case a21 => k_is)
    (case l21 => k_is)
    (case c21 => k_is)
    (case k21 => k_is)
    (case a22 => k_is)
    (case l22 => k_is)
    (case c22 => k_is)
    (case k22 => k_is)
    (case a23 => k_is)
    (case l23 => k_is)
    (case c23 => k_is)
    (case k23 => k_is)
    (case z0 => k_is)
    (case z1 => k_is)
    (case z2 => k_is)
    (case z3 => k_is)
    (case z4 => k_is)
    (case z5 => k_is)
    (case z6 => k_is)
    (case z7 => k_is)
    (case z8 => k_is)
    (case z9 => k_is)
    (case z10 => k_is)
    (case g0 => k_is)
    (case o0 => k_is)
    (case g1 => k_is)
    (case o1 => k_is)
    (case g2 => k_is)
    (case gc => k_is)
    (case eC0 => k_is)
    (case eX0 => k_exc)
    (case eK0 => k_is)
    (case eB0 => k_is)
    (case eT0 => k_is)
    (case eI0 => k_is)
    (case eS0_0 => first | rfl | k_is)
    (case hm => exact Wk.k_math)

