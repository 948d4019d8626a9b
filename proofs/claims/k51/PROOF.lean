import HandS.ForMost
import HandS.ForExc
import HandS.Walk
import HandS.Zip
import HandS.Wide
import HandS.TupAny
import HandS.TupMul
import HandS.IsInst
import HandS.CallSlots
import HandS.Flow
import KE.GoesNew
import PySem.Challenge.RW_pointrounds_k51_cast_sums
set_option Elab.async false
set_option linter.all false
set_option maxRecDepth 100000
set_option maxHeartbeats 1000000
/-! A data layer over HandS: pure data D, how it lies in the abstract heap, readings over data alone. -/
namespace DL
open PySem PySem.Spec L2
open PyProof.Rows hiding St

/-- data: what a value is worth, the heap looked through -/
inductive D where
  | non | bl (b : Bool) | int (i : Int) | str (x : Str) | tup (xs : List D) | lst (xs : List D)
  /-- the script: a list that is read only -/
  | frz (xs : List D)
  | ins (a C : Addr) (ns : List Str) (ds : List D)
  | dic (ks : List Key) (ds : List D)
  | ref (a : Addr)

mutual
def At (K : PySem.W.Frag) (R : Hp) : D → V → Prop
  | .non, v => v = .non
  | .bl b, v => v = .bl b
  | .int i, v => v = .int i
  | .str x, v => v = .str x
  | .ref a, v => v = .ref a
  | .tup ds, v => ∃ a vs, v = .ref a ∧ SqT K R a vs ∧ AtL K R ds vs
  | .lst ds, v => ∃ a vs, v = .ref a ∧ R a = some (.lst vs) ∧ AtL K R ds vs
  | .frz ds, v => ∃ a vs, v = .ref a ∧ SqL K R a vs ∧ AtL K R ds vs
  | .ins a C ns ds, v => v = .ref a ∧ ∃ dx vs, R a = some (.ins C dx (ns.zip vs)) ∧ ns.length = vs.length ∧ AtL K R ds vs
  | .dic ks ds, v => ∃ a vs, v = .ref a ∧ R a = some (.dK (ks.zip vs)) ∧ ks.length = vs.length ∧ AtL K R ds vs
def AtL (K : PySem.W.Frag) (R : Hp) : List D → List V → Prop
  | [], vs => vs = []
  | d :: ds, vs => ∃ v ws, vs = v :: ws ∧ At K R d v ∧ AtL K R ds ws
end

theorem SqT.same {K : PySem.W.Frag} {H H' : Hp} {a : Addr} {xs : List V} (e : Same H H') (h : SqT K H a xs) : SqT K H' a xs := by
  rcases h with (h | ⟨o, h⟩) | h
  · exact .inl (.inl (e _ _ h))
  · exact .inl (.inr ⟨o, e _ _ h⟩)
  · exact .inr h
mutual
theorem At.mono {K : PySem.W.Frag} {R R' : Hp} (s : Same R R') : ∀ (d : D) (v : V), At K R d v → At K R' d v
  | .non, _, h => h
  | .bl _, _, h => h
  | .int _, _, h => h
  | .str _, _, h => h
  | .ref _, _, h => h
  | .tup ds, v, h => by
    unfold At at h ⊢
    obtain ⟨a, vs, e, q, l⟩ := h
    exact ⟨a, vs, e, SqT.same s q, AtL.mono s ds vs l⟩
  | .lst ds, v, h => by
    unfold At at h ⊢
    obtain ⟨a, vs, e, q, l⟩ := h
    exact ⟨a, vs, e, s _ _ q, AtL.mono s ds vs l⟩
  | .frz ds, v, h => by
    unfold At at h ⊢
    obtain ⟨a, vs, e, q, l⟩ := h
    exact ⟨a, vs, e, s.seq q, AtL.mono s ds vs l⟩
  | .ins a C ns ds, v, h => by
    unfold At at h ⊢
    obtain ⟨e, dx, vs, q, n, l⟩ := h
    exact ⟨e, dx, vs, s _ _ q, n, AtL.mono s ds vs l⟩
  | .dic ks ds, v, h => by
    unfold At at h ⊢
    obtain ⟨a, vs, e, q, n, l⟩ := h
    exact ⟨a, vs, e, s _ _ q, n, AtL.mono s ds vs l⟩
theorem AtL.mono {K : PySem.W.Frag} {R R' : Hp} (s : Same R R') : ∀ (ds : List D) (vs : List V), AtL K R ds vs → AtL K R' ds vs
  | [], _, h => h
  | d :: ds, vs, h => by
    unfold AtL at h ⊢
    obtain ⟨v, ws, e, q, l⟩ := h
    exact ⟨v, ws, e, At.mono s d v q, AtL.mono s ds ws l⟩
end
section
variable {K : PySem.W.Frag} {R R' : Hp} {d : D} {ds es : List D} {v : V} {vs ws : List V}
theorem AtL.nil : AtL K R [] [] := by unfold AtL; rfl
theorem AtL.cons (h : At K R d v) (t : AtL K R ds vs) : AtL K R (d :: ds) (v :: vs) := by unfold AtL; exact ⟨v, vs, rfl, h, t⟩
theorem AtL.len : ∀ {ds : List D} {vs : List V}, AtL K R ds vs → ds.length = vs.length
  | [], _, h => by unfold AtL at h; subst h; rfl
  | d :: ds, _, h => by
    unfold AtL at h
    obtain ⟨v, ws, e, _, t⟩ := h
    subst e
    rw [List.length_cons, List.length_cons, AtL.len t]
theorem AtL.inv (h : AtL K R (d :: ds) vs) : ∃ v ws, vs = v :: ws ∧ At K R d v ∧ AtL K R ds ws := by unfold AtL at h; exact h
theorem AtL.inv0 (h : AtL K R [] vs) : vs = [] := by unfold AtL at h; exact h
theorem AtL.app : ∀ {ds : List D} {vs : List V}, AtL K R ds vs → AtL K R es ws → AtL K R (ds ++ es) (vs ++ ws)
  | [], _, h, t => by rw [h.inv0]; exact t
  | d :: ds, _, h, t => by
    obtain ⟨v, ws, e, q, l⟩ := h.inv
    subst e
    exact AtL.cons q (AtL.app l t)
theorem AtL.get : ∀ {ds : List D} {vs : List V} {i : Nat} {d : D}, AtL K R ds vs → ds[i]? = some d → ∃ v, vs[i]? = some v ∧ At K R d v
  | [], _, _, _, _, e => by simp at e
  | d :: ds, _, 0, x, h, e => by
    obtain ⟨v, ws, e1, q, l⟩ := h.inv
    subst e1
    simp at e; subst e
    exact ⟨v, by simp, q⟩
  | d :: ds, _, i + 1, x, h, e => by
    obtain ⟨v, ws, e1, q, l⟩ := h.inv
    subst e1
    obtain ⟨u, h1, h2⟩ := AtL.get (i := i) l (by simpa using e)
    exact ⟨u, by simpa using h1, h2⟩
theorem AtL.getV : ∀ {ds : List D} {vs : List V} {i : Nat} {v : V}, AtL K R ds vs → vs[i]? = some v → ∃ d, ds[i]? = some d ∧ At K R d v
  | [], _, _, _, h, e => by rw [h.inv0] at e; simp at e
  | d :: ds, _, 0, x, h, e => by
    obtain ⟨v, ws, e1, q, l⟩ := h.inv
    subst e1
    simp at e; subst e
    exact ⟨d, by simp, q⟩
  | d :: ds, _, i + 1, x, h, e => by
    obtain ⟨v, ws, e1, q, l⟩ := h.inv
    subst e1
    obtain ⟨u, h1, h2⟩ := AtL.getV (i := i) l (by simpa using e)
    exact ⟨u, by simpa using h1, h2⟩
theorem AtL.take : ∀ {ds : List D} {vs : List V} (n : Nat), AtL K R ds vs → AtL K R (ds.take n) (vs.take n)
  | _, _, 0, _ => by simpa using (AtL.nil (K := K) (R := R))
  | [], _, n + 1, h => by rw [h.inv0]; exact AtL.nil
  | d :: ds, _, n + 1, h => by
    obtain ⟨v, ws, e1, q, l⟩ := h.inv
    subst e1
    exact AtL.cons q (AtL.take n l)
theorem AtL.drop : ∀ {ds : List D} {vs : List V} (n : Nat), AtL K R ds vs → AtL K R (ds.drop n) (vs.drop n)
  | _, _, 0, h => h
  | [], _, n + 1, h => by rw [h.inv0]; exact AtL.nil
  | d :: ds, _, n + 1, h => by
    obtain ⟨v, ws, e1, q, l⟩ := h.inv
    subst e1
    exact AtL.drop n l
theorem AtL.set : ∀ {ds : List D} {vs : List V} (i : Nat), AtL K R ds vs → At K R d v → AtL K R (ds.set i d) (vs.set i v)
  | [], _, _, h, _ => by rw [h.inv0]; exact AtL.nil
  | _ :: _, _, 0, h, q => by
    obtain ⟨v, ws, e1, _, l⟩ := h.inv
    subst e1
    exact AtL.cons q l
  | _ :: _, _, i + 1, h, q => by
    obtain ⟨v, ws, e1, q1, l⟩ := h.inv
    subst e1
    exact AtL.cons q1 (AtL.set i l q)
theorem AtL.rev : ∀ {ds : List D} {vs : List V}, AtL K R ds vs → AtL K R ds.reverse vs.reverse
  | [], _, h => by rw [h.inv0]; exact AtL.nil
  | d :: ds, _, h => by
    obtain ⟨v, ws, e1, q, l⟩ := h.inv
    subst e1
    rw [List.reverse_cons, List.reverse_cons]
    exact (AtL.rev l).app (AtL.cons q AtL.nil)
theorem AtL.ints : ∀ {ns : List Int} {vs : List V}, AtL K R (ns.map D.int) vs → vs = ns.map V.int
  | [], _, h => h.inv0
  | n :: ns, _, h => by
    obtain ⟨v, ws, e1, q, l⟩ := AtL.inv (d := .int n) h
    subst e1
    rw [AtL.ints l]
    unfold At at q
    rw [q]; rfl
theorem AtL.of_ints : ∀ (ns : List Int), AtL K R (ns.map D.int) (ns.map V.int)
  | [] => AtL.nil
  | n :: ns => AtL.cons (by unfold At; rfl) (AtL.of_ints ns)
theorem AtL.bls : ∀ {bs : List Bool} {vs : List V}, AtL K R (bs.map D.bl) vs → vs = bs.map V.bl
  | [], _, h => h.inv0
  | n :: ns, _, h => by
    obtain ⟨v, ws, e1, q, l⟩ := AtL.inv (d := .bl n) h
    subst e1
    rw [AtL.bls l]
    unfold At at q
    rw [q]; rfl
end

/-! ### slots -/
inductive Md | sh | ow | io
  deriving DecidableEq
abbrev DEnv := List (Option D)
abbrev md (Γ : List Md) (i : Nat) : Md := Γ.getD i .sh
abbrev sl (ε : DEnv) (i : Nat) : Option D := ε.getD i none
def isL : Option D → Bool
  | some (.lst _) => true
  | _ => false
/-- a def's entry: the region of what was handed in, the heap, the list that the def may change -/
structure Ctx where
  R0 : Hp
  H0 : Hp
  io : Option Addr
def OwnAt (Γ : List Md) (σ : St) (ε : DEnv) (i : Nat) (p : Addr) : Prop := md Γ i ≠ .sh ∧ isL (sl ε i) = true ∧ σ[i]? = some (some (.ref p))
structure Rel (K : PySem.W.Frag) (c : Ctx) (Γ : List Md) (σ : St) (H : Hp) (ε : DEnv) (R : Hp) : Prop where
  len : σ.length = ε.length
  pure : ∀ i d, sl ε i = some d → (md Γ i = .sh ∨ isL (some d) = false) → ∃ v, σ[i]? = some (some v) ∧ At K R d v
  own : ∀ i ds, sl ε i = some (.lst ds) → md Γ i ≠ .sh → ∃ p vs, σ[i]? = some (some (.ref p)) ∧ H p = some (.lst vs) ∧ R p = none ∧ AtL K R ds vs ∧ (c.H0 p = none ∨ c.io = some p)
  sep : ∀ i j p, OwnAt Γ σ ε i p → OwnAt Γ σ ε j p → i = j
  io : ∀ p, c.io = some p → md Γ 0 = .io ∧ OwnAt Γ σ ε 0 p
  iox : ∀ i, md Γ i = .io → i = 0 ∧ ∃ p, c.io = some p
  sub : Same R H
  r0 : Same c.R0 R
  e1 : ∀ a o, c.io ≠ some a → c.H0 a = some o → H a = some o
  e2 : ∀ a o, R a = some o → c.R0 a = some o ∨ c.H0 a = none
  dom : ∀ a, H a = none → c.H0 a = none
/-- a step: u tells whether it may change what is owned -/
structure Stp (u : Bool) (Γ : List Md) (σ : St) (ε : DEnv) (R H : Hp) (ε' : DEnv) (R' H' : Hp) : Prop where
  r : Same R R'
  h : ∀ a o, (∀ i, ¬ OwnAt Γ σ ε i a) → H a = some o → H' a = some o
  n : ∀ a o, R' a = some o → R a = some o ∨ H a = none
  d : ∀ a, H' a = none → H a = none
  s : ∀ i, isL (sl ε' i) = isL (sl ε i)
  z : u = false → ε' = ε ∧ Same H H'
section
variable {K : PySem.W.Frag} {c : Ctx} {Γ : List Md} {σ : St} {H H1 H2 H' R R1 R2 R' : Hp} {ε ε1 ε2 ε' : DEnv} {u u1 u2 : Bool} {p : Addr} {o : HO}
theorem Stp.refl : Stp u Γ σ ε R H ε R H := ⟨Same.refl _, fun _ _ _ h => h, fun _ _ h => .inl h, fun _ h => h, fun _ => rfl, fun _ => ⟨rfl, Same.refl _⟩⟩
theorem Stp.own (s : Stp u Γ σ ε R H ε' R' H') {i : Nat} {a : Addr} : OwnAt Γ σ ε' i a ↔ OwnAt Γ σ ε i a := by
  unfold OwnAt; rw [s.s i]
theorem Stp.trans (s : Stp u1 Γ σ ε R H ε1 R1 H1) (t : Stp u2 Γ σ ε1 R1 H1 ε2 R2 H2) : Stp (u1 || u2) Γ σ ε R H ε2 R2 H2 := by
  refine ⟨s.r.trans t.r, fun a o n h => t.h a o (fun i q => n i (s.own.mp q)) (s.h a o n h), fun a o h => ?_, fun a h => s.d a (t.d a h), fun i => (t.s i).trans (s.s i), fun z => ?_⟩
  · rcases t.n a o h with q | q
    · exact s.n a o q
    · exact .inr (s.d a q)
  · rw [Bool.or_eq_false_iff] at z
    obtain ⟨e1, h1⟩ := s.z z.1
    obtain ⟨e2, h2⟩ := t.z z.2
    exact ⟨e2.trans e1, h1.trans h2⟩
theorem Stp.any (s : Stp u Γ σ ε R H ε' R' H') : Stp true Γ σ ε R H ε' R' H' := ⟨s.r, s.h, s.n, s.d, s.s, fun z => nomatch z⟩
/-- what a step leaves of the entry's facts -/
theorem Rel.e1' (r : Rel K c Γ σ H ε R) {a : Addr} {o : HO} (hi : c.io ≠ some a) (h : c.H0 a = some o) : ∀ i, ¬ OwnAt Γ σ ε i a := fun i q => by
  obtain ⟨q1, q2, q3⟩ := q
  cases hd : sl ε i with
  | none => rw [hd] at q2; cases q2
  | some d =>
    rw [hd] at q2
    cases d with
    | lst ds =>
      obtain ⟨p, vs, e1, _, _, _, e2⟩ := r.own i ds hd q1
      rw [q3] at e1
      have e3 : a = p := by injection e1 with e1; injection e1 with e1; injection e1
      subst e3
      rcases e2 with e2 | e2
      · rw [h] at e2; cases e2
      · exact hi e2
    | _ => exact absurd q2 Bool.false_ne_true
theorem Rel.ownH (r : Rel K c Γ σ H ε R) {i : Nat} {a : Addr} (q : OwnAt Γ σ ε i a) : ∃ ds vs, sl ε i = some (.lst ds) ∧ H a = some (.lst vs) ∧ R a = none ∧ AtL K R ds vs ∧ (c.H0 a = none ∨ c.io = some a) := by
  obtain ⟨q1, q2, q3⟩ := q
  cases hd : sl ε i with
  | none => rw [hd] at q2; cases q2
  | some d =>
    rw [hd] at q2
    cases d with
    | lst ds =>
      obtain ⟨p, vs, e1, h1, h2, h3, e2⟩ := r.own i ds hd q1
      rw [q3] at e1
      have e3 : a = p := by injection e1 with e1; injection e1 with e1; injection e1
      subst e3
      exact ⟨ds, vs, rfl, h1, h2, h3, e2⟩
    | _ => exact absurd q2 Bool.false_ne_true
/-- nothing owned has changed, the region has grown by new objects -/
theorem Rel.grow (r : Rel K c Γ σ H ε R) (hr : Same R R') (hh : Same H H') (sb : Same R' H') (n : ∀ a o, R' a = some o → R a = some o ∨ H a = none) : Rel K c Γ σ H' ε R' := by
  refine ⟨r.len, fun i d h m => ?_, fun i ds h m => ?_, r.sep, r.io, r.iox, sb, r.r0.trans hr, fun a o h1 h2 => hh _ _ (r.e1 a o h1 h2), fun a o h => ?_, fun a h => ?_⟩
  · obtain ⟨v, h1, h2⟩ := r.pure i d h m
    exact ⟨v, h1, At.mono hr d v h2⟩
  · obtain ⟨p, vs, h1, h2, h3, h4, h5⟩ := r.own i ds h m
    refine ⟨p, vs, h1, hh _ _ h2, ?_, AtL.mono hr ds vs h4, h5⟩
    cases e : R' p with
    | none => rfl
    | some o =>
      rcases n p o e with z | z
      · rw [h3] at z; cases z
      · rw [h2] at z; cases z
  · rcases n a o h with z | z
    · exact r.e2 a o z
    · exact .inr (r.dom a z)
  · cases e : H a with
    | none => exact r.dom a e
    | some o => rw [hh a o e] at h; cases h
theorem Stp.grow (hr : Same R R') (hh : Same H H') (n : ∀ a o, R' a = some o → R a = some o ∨ H a = none) : Stp u Γ σ ε R H ε R' H' :=
  ⟨hr, fun a o _ h => hh a o h, n, fun a h => hh.free h, fun _ => rfl, fun _ => ⟨rfl, hh⟩⟩
theorem same_upd {H : Hp} {p : Addr} {o : HO} (h : H p = none) : Same H (upd H p o) := fun b x e => by
  rw [upd_ne (ne_of_none e h)]
  exact e
theorem Rel.gone (r : Rel K c Γ σ H ε R) {a : Addr} (h : H a = none) : R a = none := by
  cases e : R a with
  | none => rfl
  | some o => rw [r.sub a o e] at h; cases h
end

/-! ### kinds of values -/
inductive Kd | pu | fr | rd
  deriving DecidableEq
def Val (K : PySem.W.Frag) (Γ : List Md) (σ : St) (Hs : Hp) (ε : DEnv) (R H : Hp) (d : D) (v : V) : Kd → Prop
  | .pu => At K R d v
  | .fr => (isL (some d) = false → At K R d v) ∧ ∀ ds, d = .lst ds → ∃ q vs, v = .ref q ∧ H q = some (.lst vs) ∧ R q = none ∧ AtL K R ds vs ∧ Hs q = none ∧ ∀ i, ¬ OwnAt Γ σ ε i q
  | .rd => At K R d v ∨ ∃ ds p vs, d = .lst ds ∧ v = .ref p ∧ H p = some (.lst vs) ∧ AtL K R ds vs
/-- readable now -/
def Rdv (K : PySem.W.Frag) (R H : Hp) (d : D) (v : V) : Prop := At K R d v ∨ ∃ ds p vs, d = .lst ds ∧ v = .ref p ∧ H p = some (.lst vs) ∧ AtL K R ds vs
section
variable {K : PySem.W.Frag} {c : Ctx} {Γ : List Md} {σ : St} {H H1 H2 H' R R1 R2 R' : Hp} {ε ε1 ε2 ε' : DEnv} {u u1 u2 : Bool} {p : Addr} {o : HO} {k : Kd} {d : D} {v : V} {ds : List D} {x : Str} {Hs : Hp}
theorem isL_cases (d : D) : (∃ ds, d = .lst ds) ∨ isL (some d) = false := by
  cases d with
  | lst ds => exact .inl ⟨ds, rfl⟩
  | _ => exact .inr rfl
theorem Val.rdv (h : Val K Γ σ Hs ε R H d v k) : Rdv K R H d v := by
  cases k with
  | pu => exact .inl h
  | rd => exact h
  | fr =>
    rcases isL_cases d with ⟨ds, e⟩ | e
    · obtain ⟨q, vs, e1, e2, _, e3, _⟩ := h.2 ds e
      exact .inr ⟨ds, q, vs, e, e1, e2, e3⟩
    · exact .inl (h.1 e)
/-- kept over a further step -/
theorem Val.rdv_on (h : Val K Γ σ Hs ε R H d v k) (s : Stp u Γ σ ε R H ε' R' H') (hk : k = .rd → u = false) : Rdv K R' H' d v := by
  cases k with
  | pu => exact .inl (At.mono s.r d v h)
  | rd =>
    rcases h with h | ⟨ds, p, vs, e1, e2, e3, e4⟩
    · exact .inl (At.mono s.r d v h)
    · exact .inr ⟨ds, p, vs, e1, e2, (s.z (hk rfl)).2 _ _ e3, AtL.mono s.r ds vs e4⟩
  | fr =>
    rcases isL_cases d with ⟨ds, e⟩ | e
    · obtain ⟨q, vs, e1, e2, _, e3, _, e4⟩ := h.2 ds e
      exact .inr ⟨ds, q, vs, e, e1, s.h _ _ e4 e2, AtL.mono s.r ds vs e3⟩
    · exact .inl (At.mono s.r d v (h.1 e))
theorem Rdv.int {i : Int} (h : Rdv K R H (.int i) v) : v = .int i := by
  rcases h with h | ⟨_, _, _, e, _⟩
  · unfold At at h; exact h
  · cases e
theorem Rdv.str {x : Str} (h : Rdv K R H (.str x) v) : v = .str x := by
  rcases h with h | ⟨_, _, _, e, _⟩
  · unfold At at h; exact h
  · cases e
theorem Rdv.bl {b : Bool} (h : Rdv K R H (.bl b) v) : v = .bl b := by
  rcases h with h | ⟨_, _, _, e, _⟩
  · unfold At at h; exact h
  · cases e
theorem Rdv.non (h : Rdv K R H .non v) : v = .non := by
  rcases h with h | ⟨_, _, _, e, _⟩
  · unfold At at h; exact h
  · cases e
theorem Rdv.tup {ds : List D} (s : Same R H) (h : Rdv K R H (.tup ds) v) : ∃ a vs, v = .ref a ∧ SqT K H a vs ∧ AtL K R ds vs := by
  rcases h with h | ⟨_, _, _, e, _⟩
  · unfold At at h
    obtain ⟨a, vs, e, q, l⟩ := h
    exact ⟨a, vs, e, SqT.same s q, l⟩
  · cases e
theorem Rdv.lst {ds : List D} (s : Same R H) (h : Rdv K R H (.lst ds) v) : ∃ a vs, v = .ref a ∧ H a = some (.lst vs) ∧ AtL K R ds vs := by
  rcases h with h | ⟨ds', p, vs, e, e1, e2, e3⟩
  · unfold At at h
    obtain ⟨a, vs, e, q, l⟩ := h
    exact ⟨a, vs, e, s _ _ q, l⟩
  · cases e
    exact ⟨p, vs, e1, e2, e3⟩
theorem Rdv.frz {ds : List D} (s : Same R H) (h : Rdv K R H (.frz ds) v) : ∃ a vs, v = .ref a ∧ SqL K H a vs ∧ AtL K R ds vs := by
  rcases h with h | ⟨_, _, _, e, _⟩
  · unfold At at h
    obtain ⟨a, vs, e, q, l⟩ := h
    exact ⟨a, vs, e, s.seq q, l⟩
  · cases e
end

/-! ### exceptions' wishes, readings over data -/
abbrev DEx := Addr → List Str → List D → DEnv → Prop
abbrev DTE := DEx → DEnv → (D → DEnv → Prop) → Prop
abbrev DTT := DEx → DEnv → (Bool → DEnv → Prop) → Prop
abbrev DTA := DEx → DEnv → (List D → DEnv → Prop) → Prop
def ExcOK (K : PySem.W.Frag) (c : Ctx) (W : WX) (E : DEx) : Prop :=
  ∀ Γ σ H ε R C ns ds d vs, E C ns ds ε → Rel K c Γ σ H ε R → H d = some (.xd (ns.zip vs)) → ns.length = vs.length → AtL K R ds vs → W (.ref C) (some d) σ H

/-- the reading t is led by the reading w over data -/
def Snd (K : PySem.W.Frag) (c : Ctx) (W : WX) (Γ : List Md) (t : TE) (k : Kd) (u : Bool) (w : DTE) : Prop :=
  ∀ σ H ε R E P Q, Rel K c Γ σ H ε R → ExcOK K c W E → w E ε P →
    (∀ d ε' v H' R', P d ε' → Rel K c Γ σ H' ε' R' → Stp u Γ σ ε R H ε' R' H' → Val K Γ σ H ε' R' H' d v k → Q v H') → t σ H Q
def SndT (K : PySem.W.Frag) (c : Ctx) (W : WX) (Γ : List Md) (t : TT) (u : Bool) (w : DTT) : Prop :=
  ∀ σ H ε R E P Q, Rel K c Γ σ H ε R → ExcOK K c W E → w E ε P →
    (∀ d ε' H' R', P d ε' → Rel K c Γ σ H' ε' R' → Stp u Γ σ ε R H ε' R' H' → Q d H') → t σ H Q
def SndA (K : PySem.W.Frag) (c : Ctx) (W : WX) (Γ : List Md) (t : TA) (u : Bool) (w : DTA) : Prop :=
  ∀ σ H ε R E P Q, Rel K c Γ σ H ε R → ExcOK K c W E → w E ε P →
    (∀ ds ε' vs H' R', P ds ε' → Rel K c Γ σ H' ε' R' → Stp u Γ σ ε R H ε' R' H' → AtL K R' ds vs → Q vs H') → t σ H Q
/-- an expression over data: w its reading, k the kind of its value, u whether it may change what is owned -/
structure DE (X : Cx) (c : Ctx) (W : WX) (Γ : List Md) (e : Expr) (k : Kd) (u : Bool) (w : DTE) : Prop where
  run : ∃ t, PE X e t ∧ Snd X.K c W Γ t k u w
  mono : ∀ E ε P P', (∀ d ε', P d ε' → P' d ε') → w E ε P → w E ε P'
structure DT (X : Cx) (c : Ctx) (W : WX) (Γ : List Md) (e : Expr) (u : Bool) (w : DTT) : Prop where
  run : ∃ t, PT X e t ∧ SndT X.K c W Γ t u w
  mono : ∀ E ε P P', (∀ d ε', P d ε' → P' d ε') → w E ε P → w E ε P'
/-- arguments: pure values -/
structure DA (X : Cx) (c : Ctx) (W : WX) (Γ : List Md) (es : List Expr) (u : Bool) (w : DTA) : Prop where
  run : ∃ t, PA X es t ∧ SndA X.K c W Γ t u w
  mono : ∀ E ε P P', (∀ d ε', P d ε' → P' d ε') → w E ε P → w E ε P'

section
variable {X : Cx} {c : Ctx} {W : WX} {Γ : List Md} {e a b : Expr} {k ka kb : Kd} {u ua ub : Bool} {w wa wb : DTE} {pos : Pos}
/-! ### constants and names -/
def wC (d : D) : DTE := fun _ ε P => P d ε
def wV (i : Nat) : DTE := fun _ ε P => match sl ε i with
  | some d => P d ε
  | none => False
theorem de_const {t : TE} {d : D} {v : V} (h : PE X e t) (ht : t = tC v) (hv : ∀ R, At X.K R d v) : DE X c W Γ e .pu false (wC d) := by
  subst ht
  exact ⟨⟨_, h, fun σ H ε R E P Q r _ p q => q d ε v H R p r Stp.refl (hv R)⟩, fun _ _ _ _ h p => h _ _ p⟩
theorem de_int {i : Int} {j} : DE X c W Γ (.Constant (.int i) j pos) .pu false (wC (.int i)) := de_const pe_int rfl fun _ => by unfold At; rfl
theorem de_bl {i : Bool} {j} : DE X c W Γ (.Constant (.bool i) j pos) .pu false (wC (.bl i)) := de_const pe_bl rfl fun _ => by unfold At; rfl
theorem de_non {j} : DE X c W Γ (.Constant .none j pos) .pu false (wC .non) := de_const pe_non rfl fun _ => by unfold At; rfl
theorem de_str {x : Str} {j} : DE X c W Γ (.Constant (.str x) j pos) .pu false (wC (.str x)) := de_const pe_str rfl fun _ => by unfold At; rfl
theorem de_glob_int {x : Str} {i : Int} {t : Tok} (hg : Gl X x) (hm : X.mg x = some (.int i t)) (hd : (x == ("__debug__" : Str)) = false := by decide) : DE X c W Γ (.Name x pos) .pu false (wC (.int i)) :=
  de_const (pe_glob (v := .int i) hg hm ⟨t, rfl⟩ hd) rfl fun _ => by unfold At; rfl
theorem de_glob_str {x y : Str} {t : Tok} (hg : Gl X x) (hm : X.mg x = some (.str y t)) (hd : (x == ("__debug__" : Str)) = false := by decide) : DE X c W Γ (.Name x pos) .pu false (wC (.str y)) :=
  de_const (pe_glob (v := .str y) hg hm ⟨t, rfl⟩ hd) rfl fun _ => by unfold At; rfl
theorem wV_mono {i : Nat} (E : DEx) (ε : DEnv) (P P' : D → DEnv → Prop) (h : ∀ d ε', P d ε' → P' d ε') (p : wV i E ε P) : wV i E ε P' := by
  unfold wV at p ⊢
  split at p
  · exact h _ _ p
  · exact p
theorem wV_inv {i : Nat} {E : DEx} {ε : DEnv} {P : D → DEnv → Prop} (p : wV i E ε P) : ∃ d, sl ε i = some d ∧ P d ε := by
  unfold wV at p
  split at p
  · rename_i d e
    exact ⟨d, e, p⟩
  · exact p.elim
/-- a name whose value is shared -/
theorem de_var (i : Nat) {x : Str} (hi : X.N[i]? = some x := by rfl) (hv : Vis X.env.scope x := by first | exact Or.inl rfl | exact Or.inr (Or.inl rfl) | exact Or.inr (Or.inr rfl)) (hm : md Γ i = .sh := by rfl)
    (hd : (x == ("__debug__" : Str)) = false := by decide) (hcd : (x == ("__classdict__" : Str)) = false := by decide) : DE X c W Γ (.Name x pos) .pu false (wV i) := by
  refine ⟨⟨_, pe_var hi hv hd hcd, fun σ H ε R E P Q r _ p q => ?_⟩, wV_mono⟩
  obtain ⟨d, e, p⟩ := wV_inv p
  obtain ⟨v, h1, h2⟩ := r.pure i d e (.inl hm)
  exact ⟨v, h1, q d ε v H R p r Stp.refl h2⟩
/-- any name, to be read only -/
theorem de_varR (i : Nat) {x : Str} (hi : X.N[i]? = some x := by rfl) (hv : Vis X.env.scope x := by first | exact Or.inl rfl | exact Or.inr (Or.inl rfl) | exact Or.inr (Or.inr rfl))
    (hd : (x == ("__debug__" : Str)) = false := by decide) (hcd : (x == ("__classdict__" : Str)) = false := by decide) : DE X c W Γ (.Name x pos) .rd false (wV i) := by
  refine ⟨⟨_, pe_var hi hv hd hcd, fun σ H ε R E P Q r _ p q => ?_⟩, wV_mono⟩
  obtain ⟨d, e, p⟩ := wV_inv p
  by_cases hm : md Γ i = .sh
  · obtain ⟨v, h1, h2⟩ := r.pure i d e (.inl hm)
    exact ⟨v, h1, q d ε v H R p r Stp.refl (.inl h2)⟩
  · rcases isL_cases d with ⟨ds, el⟩ | el
    · subst el
      obtain ⟨p', vs, h1, h2, _, h3, _⟩ := r.own i ds e hm
      exact ⟨.ref p', h1, q _ ε _ H R p r Stp.refl (.inr ⟨ds, p', vs, rfl, rfl, h2, h3⟩)⟩
    · obtain ⟨v, h1, h2⟩ := r.pure i d e (.inr el)
      exact ⟨v, h1, q d ε v H R p r Stp.refl (.inl h2)⟩
/-! ### kinds -/
theorem DE.up (h : DE X c W Γ e k false w) : DE X c W Γ e k true w := by
  obtain ⟨⟨t, pe, s⟩, m⟩ := h
  exact ⟨⟨t, pe, fun σ H ε R E P Q r x p q => s σ H ε R E P Q r x p fun d ε' v H' R' p' r' s' v' => q d ε' v H' R' p' r' s'.any v'⟩, m⟩
/-- what was made new is given out of hand -/
theorem DE.pu (h : DE X c W Γ e .fr u w) : DE X c W Γ e .pu u w := by
  obtain ⟨⟨t, pe, s⟩, m⟩ := h
  refine ⟨⟨t, pe, fun σ H ε R E P Q r x p q => s σ H ε R E P Q r x p fun d ε' v H' R' p' r' s' v' => ?_⟩, m⟩
  rcases isL_cases d with ⟨ds, el⟩ | el
  · subst el
    obtain ⟨a, vs, e1, e2, e3, e4, e5, e6⟩ := v'.2 ds rfl
    have hr : Same R' (upd R' a (.lst vs)) := same_upd e3
    have sb : Same (upd R' a (.lst vs)) H' := fun b o z => by
      by_cases hb : b = a
      · subst hb; rw [upd_same] at z; cases z; exact e2
      · rw [upd_ne hb] at z; exact r'.sub _ _ z
    have r2 : Rel X.K c Γ σ H' ε' (upd R' a (.lst vs)) := by
      refine ⟨r'.len, fun i d h m => ?_, fun i ds h m => ?_, r'.sep, r'.io, r'.iox, sb, r'.r0.trans hr, r'.e1, fun b o z => ?_, r'.dom⟩
      · obtain ⟨v, h1, h2⟩ := r'.pure i d h m
        exact ⟨v, h1, At.mono hr d v h2⟩
      · obtain ⟨p, vs', h1, h2, h3, h4, h5⟩ := r'.own i ds h m
        refine ⟨p, vs', h1, h2, ?_, AtL.mono hr ds vs' h4, h5⟩
        have ne : p ≠ a := fun z => e6 i ⟨m, by rw [h]; rfl, by rw [← z]; exact h1⟩
        rw [upd_ne ne]; exact h3
      · by_cases hb : b = a
        · subst hb; exact .inr (r.dom _ e5)
        · rw [upd_ne hb] at z; exact r'.e2 _ _ z
    have s2 : Stp u Γ σ ε R H ε' (upd R' a (.lst vs)) H' := ⟨s'.r.trans hr, s'.h, fun b o z => by
      by_cases hb : b = a
      · subst hb; exact .inr e5
      · rw [upd_ne hb] at z; exact s'.n _ _ z, s'.d, s'.s, s'.z⟩
    exact q _ ε' _ H' _ p' r2 s2 (by unfold Val At; exact ⟨a, vs, e1, upd_same, AtL.mono hr _ _ e4⟩)
  · exact q d ε' v H' R' p' r' s' (v'.1 el)
end
end DL
set_option Elab.async false
set_option linter.all false
set_option maxRecDepth 100000
set_option maxHeartbeats 1000000
/-! operators over data -/
namespace DL
open PySem PySem.Spec L2
open PyProof.Rows hiding St

/-! ### data as PyData -/
mutual
def py : D → PyData
  | .non => .none
  | .bl b => .bool b
  | .int i => .int i
  | .str x => .str x
  | .tup ds => .tuple (pyL ds)
  | .lst ds => .list (pyL ds)
  | .frz ds => .list (pyL ds)
  | .ins _ _ _ _ => .none
  | .dic _ _ => .none
  | .ref _ => .none
def pyL : List D → List PyData
  | [] => []
  | d :: ds => py d :: pyL ds
end
mutual
/-- data without objects, nested below n -/
def okD : Nat → D → Bool
  | _, .non => true
  | _, .bl _ => true
  | _, .int _ => true
  | _, .str x => PyData.strOk x
  | n, .tup ds => match n with
    | 0 => false
    | n + 1 => okL n ds
  | n, .lst ds => match n with
    | 0 => false
    | n + 1 => okL n ds
  | n, .frz ds => match n with
    | 0 => false
    | n + 1 => okL n ds
  | _, .ins _ _ _ _ => false
  | _, .dic _ _ => false
  | _, .ref _ => false
def okL : Nat → List D → Bool
  | _, [] => true
  | n, d :: ds => okD n d && okL n ds
end
mutual
theorem okD_dp {K : PySem.W.Frag} {H : Hp} : ∀ (d : D) (n : Nat) (v : V), okD n d = true → At K H d v → Dp K H v (py d)
  | .non, n, v, _, h => by unfold At at h; subst h; unfold py; exact .non
  | .bl b, n, v, _, h => by unfold At at h; subst h; unfold py; exact .bl b
  | .int i, n, v, _, h => by unfold At at h; subst h; unfold py; exact .int i
  | .str x, n, v, _, h => by unfold At at h; subst h; unfold py; exact .str x
  | .tup ds, 0, v, o, h => by unfold okD at o; cases o
  | .tup ds, n + 1, v, o, h => by
    unfold okD at o; unfold At at h; unfold py
    obtain ⟨a, vs, e, q, l⟩ := h
    subst e
    exact .tup q (okL_dp ds n vs o l)
  | .lst ds, 0, v, o, h => by unfold okD at o; cases o
  | .lst ds, n + 1, v, o, h => by
    unfold okD at o; unfold At at h; unfold py
    obtain ⟨a, vs, e, q, l⟩ := h
    subst e
    exact .lst (.inl (.inl q)) (okL_dp ds n vs o l)
  | .frz ds, 0, v, o, h => by unfold okD at o; cases o
  | .frz ds, n + 1, v, o, h => by
    unfold okD at o; unfold At at h; unfold py
    obtain ⟨a, vs, e, q, l⟩ := h
    subst e
    exact .lst q (okL_dp ds n vs o l)
  | .ins _ _ _ _, n, v, o, _ => by unfold okD at o; cases o
  | .dic _ _, n, v, o, _ => by unfold okD at o; cases o
  | .ref _, n, v, o, _ => by unfold okD at o; cases o
theorem okL_dp {K : PySem.W.Frag} {H : Hp} : ∀ (ds : List D) (n : Nat) (vs : List V), okL n ds = true → AtL K H ds vs → DpAll K H vs (pyL ds)
  | [], _, _, _, h => by rw [h.inv0]; unfold pyL; exact .nil
  | d :: ds, n, vs, o, h => by
    unfold okL at o
    rw [Bool.and_eq_true] at o
    obtain ⟨v, ws, e, q, l⟩ := h.inv
    subst e
    unfold pyL
    exact .cons (okD_dp d n v o.1 q) (okL_dp ds n ws o.2 l)
end
mutual
theorem okD_shape : ∀ (d : D) (n : Nat), okD n d = true → (py d).canLay0 = true ∧ (py d).depth ≤ n
  | .non, n, _ => by simp [py, PyData.canLay0, PyData.depth]
  | .bl b, n, _ => by simp [py, PyData.canLay0, PyData.depth]
  | .int i, n, _ => by simp [py, PyData.canLay0, PyData.depth]
  | .str x, n, o => by unfold okD at o; simp [py, PyData.canLay0, PyData.depth, o]
  | .tup ds, 0, o => by unfold okD at o; cases o
  | .tup ds, n + 1, o => by
    unfold okD at o
    obtain ⟨h1, h2⟩ := okL_shape ds n o
    simp only [py, PyData.canLay0, PyData.depth]
    exact ⟨h1, by omega⟩
  | .lst ds, 0, o => by unfold okD at o; cases o
  | .lst ds, n + 1, o => by
    unfold okD at o
    obtain ⟨h1, h2⟩ := okL_shape ds n o
    simp only [py, PyData.canLay0, PyData.depth]
    exact ⟨h1, by omega⟩
  | .frz ds, 0, o => by unfold okD at o; cases o
  | .frz ds, n + 1, o => by
    unfold okD at o
    obtain ⟨h1, h2⟩ := okL_shape ds n o
    simp only [py, PyData.canLay0, PyData.depth]
    exact ⟨h1, by omega⟩
  | .ins _ _ _ _, n, o => by unfold okD at o; cases o
  | .dic _ _, n, o => by unfold okD at o; cases o
  | .ref _, n, o => by unfold okD at o; cases o
theorem okL_shape : ∀ (ds : List D) (n : Nat), okL n ds = true → PyData.canLayAll0 (pyL ds) = true ∧ PyData.depthAll (pyL ds) ≤ n
  | [], n, _ => by simp [pyL, PyData.canLayAll0, PyData.depthAll]
  | d :: ds, n, o => by
    unfold okL at o
    rw [Bool.and_eq_true] at o
    obtain ⟨h1, h2⟩ := okD_shape d n o.1
    obtain ⟨h3, h4⟩ := okL_shape ds n o.2
    simp only [pyL, PyData.canLayAll0, PyData.depthAll, h1, h3, Bool.and_self, true_and]
    omega
end
theorem okD_shaped {d : D} {n : Nat} (h : okD n d = true) (hn : n ≤ 64 := by decide) : SeqAt.shaped (py d) = true := by
  obtain ⟨h1, h2⟩ := okD_shape d n h
  show ((py d).canLay0 && decide ((py d).depth ≤ 64)) = true
  rw [h1, Bool.true_and]
  exact decide_eq_true (by omega)
/-- Python's == over data -/
def eqD (d e : D) : Bool := PyData.eqv (py d) (py e)
def eqLD (ds es : List D) : Bool := PyData.eqvAll (pyL ds) (pyL es)

/-! ### operators by values, over data -/
abbrev DOp := D → D → (D → Prop) → Prop
structure Gw (R H R' H' : Hp) : Prop where
  r : Same R R'
  h : Same H H'
  sb : Same R' H'
  n : ∀ a o, R' a = some o → R a = some o ∨ H a = none
theorem Gw.refl {R H : Hp} (s : Same R H) : Gw R H R H := ⟨Same.refl _, Same.refl _, s, fun _ _ h => .inl h⟩
/-- a new object, given out of hand -/
theorem Gw.new {R H : Hp} {p : Addr} {o : HO} (s : Same R H) (h : H p = none) : Gw R H (upd R p o) (upd H p o) := by
  have hr : R p = none := by
    cases e : R p with
    | none => rfl
    | some o => rw [s p o e] at h; cases h
  refine ⟨same_upd hr, same_upd h, fun b z e => ?_, fun b z e => ?_⟩
  · by_cases hb : b = p
    · subst hb; rw [upd_same] at e ⊢; exact e
    · rw [upd_ne hb] at e ⊢; exact s _ _ e
  · by_cases hb : b = p
    · subst hb; exact .inr h
    · rw [upd_ne hb] at e; exact .inl e
/-- a new object, kept in hand -/
theorem Gw.own {R H : Hp} {p : Addr} {o : HO} (s : Same R H) (h : H p = none) : Gw R H R (upd H p o) :=
  ⟨Same.refl _, same_upd h, s.trans (same_upd h), fun _ _ e => .inl e⟩
def ValN (K : PySem.W.Frag) (H R' H' : Hp) (d : D) (v : V) : Kd → Prop
  | .pu => At K R' d v
  | .fr => (isL (some d) = false → At K R' d v) ∧ ∀ ds, d = .lst ds → ∃ q vs, v = .ref q ∧ H' q = some (.lst vs) ∧ R' q = none ∧ AtL K R' ds vs ∧ H q = none
  | .rd => Rdv K R' H' d v
theorem ValN.nl {K : PySem.W.Frag} {H R' H' : Hp} {d : D} {v : V} (h : At K R' d v) (n : isL (some d) = false) : ValN K H R' H' d v .fr := ⟨fun _ => h, fun ds e => by subst e; cases n⟩
theorem ValN.lst {K : PySem.W.Frag} {R H : Hp} {ds : List D} {vs : List V} {p : Addr} (s : Same R H) (h : H p = none) (l : AtL K R ds vs) : ValN K H R (upd H p (.lst vs)) (.lst ds) (.ref p) .fr :=
  ⟨fun z => (nomatch z), fun es e => by
    cases e
    refine ⟨p, vs, rfl, upd_same, ?_, l, h⟩
    cases e : R p with
    | none => rfl
    | some o => rw [s p o e] at h; cases h⟩
def OpD (K : PySem.W.Frag) (k : Kd) (r : R2) (o : DOp) : Prop :=
  ∀ R H x y d e P Q, Same R H → Rdv K R H d x → Rdv K R H e y → o d e P → (∀ z v R' H', P z → Gw R H R' H' → ValN K H R' H' z v k → Q v H') → r x y H Q
structure OMono (o : DOp) : Prop where
  m : ∀ d e P P', (∀ z, P z → P' z) → o d e P → o d e P'
section
variable {K : PySem.W.Frag} {c : Ctx} {Γ : List Md} {σ : St} {H H1 H2 H' R R1 R2 R' Hs Rs : Hp} {ε ε1 ε2 ε' : DEnv} {u u1 u2 : Bool} {p : Addr} {k : Kd} {d : D} {v : V}
theorem Gw.rel (g : Gw R H R' H') (r : Rel K c Γ σ H ε R) : Rel K c Γ σ H' ε R' := r.grow g.r g.h g.sb g.n
theorem Gw.stp (g : Gw R H R' H') : Stp false Γ σ ε R H ε R' H' := Stp.grow g.r g.h g.n
theorem ValN.val (h : ValN K H R' H' d v k) (r : Rel K c Γ σ H ε R) (s : Stp u Γ σ ε1 Rs Hs ε R H) : Val K Γ σ Hs ε R' H' d v k := by
  cases k with
  | pu => exact h
  | rd => exact h
  | fr =>
    refine ⟨h.1, fun ds e => ?_⟩
    obtain ⟨q, vs, e1, e2, e3, e4, e5⟩ := h.2 ds e
    refine ⟨q, vs, e1, e2, e3, e4, s.d _ e5, fun i z => ?_⟩
    obtain ⟨_, _, _, h1, _⟩ := r.ownH z
    rw [e5] at h1; cases h1
end
def wOp (o : DOp) (wa wb : DTE) : DTE := fun E ε P => wa E ε fun x ε1 => wb E ε1 fun y ε2 => o x y fun r => P r ε2
section
variable {X : Cx} {c : Ctx} {W : WX} {Γ : List Md} {a b : Expr} {k ka kb : Kd} {u ua ub : Bool} {w wa wb : DTE} {pos : Pos} {r : R2} {o : DOp}
/-- two operands, then an operation on their values -/
theorem snd_tOp {ta tb : TE} (ho : OpD X.K k r o) (sa : Snd X.K c W Γ ta ka ua wa) (sb : Snd X.K c W Γ tb kb ub wb) (hk : ka = .rd → ub = false) : Snd X.K c W Γ (tOp r ta tb) k (ua || ub) (wOp o wa wb) := by
  intro σ H ε R E P Q r x p q
  refine sa σ H ε R E _ _ r x p fun d ε1 v H1 R1 p1 r1 s1 v1 => ?_
  refine sb σ H1 ε1 R1 E _ _ r1 x p1 fun d2 ε2 v' H2 R2 p2 r2 s2 v2 => ?_
  refine ho R2 H2 v v' d d2 _ _ r2.sub (v1.rdv_on s2 hk) v2.rdv p2 fun z v3 R' H' pz g vn => ?_
  have s12 := s1.trans s2
  refine q z ε2 v3 H' R' pz (g.rel r2) ?_ (vn.val r2 s12)
  have s3 := s12.trans (g.stp (Γ := Γ) (σ := σ) (ε := ε2))
  rw [Bool.or_false] at s3
  exact s3
theorem wOp_mono {wa wb : DTE} (hm : OMono o) (ma : ∀ E ε P P', (∀ d ε', P d ε' → P' d ε') → wa E ε P → wa E ε P') (mb : ∀ E ε P P', (∀ d ε', P d ε' → P' d ε') → wb E ε P → wb E ε P')
    (E : DEx) (ε : DEnv) (P P' : D → DEnv → Prop) (h : ∀ d ε', P d ε' → P' d ε') (p : wOp o wa wb E ε P) : wOp o wa wb E ε P' :=
  ma _ _ _ _ (fun d ε1 q => mb _ _ _ _ (fun e ε2 q => hm.m _ _ _ _ (fun z q => h _ _ q) q) q) p
theorem de_tOp {e : Expr} (ho : OpD X.K k r o) (hm : OMono o) (ha : DE X c W Γ a ka ua wa) (hb : DE X c W Γ b kb ub wb) (hk : ka = .rd → ub = false) (he : ∀ ta tb, PE X a ta → PE X b tb → PE X e (tOp r ta tb)) : DE X c W Γ e k (ua || ub) (wOp o wa wb) := by
  obtain ⟨⟨ta, pa, sa⟩, ma⟩ := ha
  obtain ⟨⟨tb, pb, sb⟩, mb⟩ := hb
  exact ⟨⟨_, he ta tb pa pb, snd_tOp ho sa sb hk⟩, wOp_mono hm ma mb⟩
theorem de_bin {op : Operator} (hr : OpR X (binaryOp op) r) (ho : OpD X.K k r o) (hm : OMono o) (ha : DE X c W Γ a ka ua wa) (hb : DE X c W Γ b kb ub wb) (hk : ka = .rd → ub = false := by decide) : DE X c W Γ (.BinOp a op b pos) k (ua || ub) (wOp o wa wb) :=
  de_tOp ho hm ha hb hk fun _ _ pa pb => pe_op hr pa pb
theorem de_cmp {op : CmpOp} (hr : OpR X (compareOp op) r) (ho : OpD X.K k r o) (hm : OMono o) (ha : DE X c W Γ a ka ua wa) (hb : DE X c W Γ b kb ub wb) (hb2 : behindInMarks op b = false) (hk : ka = .rd → ub = false := by decide) : DE X c W Γ (.Compare a [op] [b] pos) k (ua || ub) (wOp o wa wb) :=
  de_tOp ho hm ha hb hk fun _ _ pa pb => pe_cmpR hr pa pb hb2
end

/-! ### the operators -/
theorem opD_or {K : PySem.W.Frag} {k : Kd} {r r' : R2} {o o' : DOp} (h : OpD K k r o) (h' : OpD K k r' o') : OpD K k (fun x y H Q => r x y H Q ∨ r' x y H Q) (fun d e P => o d e P ∨ o' d e P) := by
  intro R H x y d e P Q s hx hy ho q
  rcases ho with ho | ho
  · exact .inl (h R H x y d e P Q s hx hy ho q)
  · exact .inr (h' R H x y d e P Q s hx hy ho q)
theorem opD_imp {K : PySem.W.Frag} {k : Kd} {r : R2} {o o' : DOp} (h : OpD K k r o) (i : ∀ d e P, o' d e P → o d e P) : OpD K k r o' := fun R H x y d e P Q s hx hy ho q => h R H x y d e P Q s hx hy (i _ _ _ ho) q
/-- ints in -/
def oI (C : Int → Int → Prop) (g : Int → Int → D) : DOp := fun d e P => ∃ i j, d = .int i ∧ e = .int j ∧ C i j ∧ P (g i j)
theorem opD_I {K : PySem.W.Frag} {C : Int → Int → Prop} {g : Int → Int → D} {gv : Int → Int → V} (hg : ∀ i j R, At K R (g i j) (gv i j)) (hl : ∀ i j, isL (some (g i j)) = false) : OpD K .fr (rI C gv) (oI C g) := by
  intro R H x y d e P Q s hx hy ho q
  obtain ⟨i, j, rfl, rfl, hc, p⟩ := ho
  exact ⟨i, j, hx.int, hy.int, hc, q _ _ R H p (Gw.refl s) (.nl (hg i j R) (hl i j))⟩
theorem opD_I0 {K : PySem.W.Frag} {g : Int → Int → D} {gv : Int → Int → V} (hg : ∀ i j R, At K R (g i j) (gv i j)) (hl : ∀ i j, isL (some (g i j)) = false) : OpD K .fr (rI0 gv) (oI (fun _ _ => True) g) := by
  intro R H x y d e P Q s hx hy ho q
  obtain ⟨i, j, rfl, rfl, hc, p⟩ := ho
  exact ⟨i, j, hx.int, hy.int, q _ _ R H p (Gw.refl s) (.nl (hg i j R) (hl i j))⟩
theorem at_int {K : PySem.W.Frag} {R : Hp} {i : Int} : At K R (.int i) (.int i) := by unfold At; rfl
theorem at_bl {K : PySem.W.Frag} {R : Hp} {i : Bool} : At K R (.bl i) (.bl i) := by unfold At; rfl
theorem at_str {K : PySem.W.Frag} {R : Hp} {i : Str} : At K R (.str i) (.str i) := by unfold At; rfl
theorem at_non {K : PySem.W.Frag} {R : Hp} : At K R .non .non := by unfold At; rfl
theorem at_tup {K : PySem.W.Frag} {R : Hp} {p : Addr} {vs : List V} {ds : List D} (h : AtL K (upd R p (.tup vs)) ds vs) : At K (upd R p (.tup vs)) (.tup ds) (.ref p) := by
  unfold At; exact ⟨p, vs, rfl, .inl (.inl upd_same), h⟩
theorem at_new {K : PySem.W.Frag} {R H : Hp} {p : Addr} {vs : List V} {ds : List D} (s : Same R H) (h : H p = none) (l : AtL K R ds vs) : At K (upd R p (.tup vs)) (.tup ds) (.ref p) :=
  at_tup (AtL.mono (Gw.new s h).r ds vs l)

/-- + -/
def oAdd : DOp
  | .int i, .int j, P => P (.int (i + j))
  | .str x, .str y, P => x.length + y.length ≤ sizeLine ∧ P (.str (x ++ y))
  | .tup xs, .tup ys, P => xs.length + ys.length ≤ sizeLine ∧ P (.tup (xs ++ ys))
  | .lst xs, .lst ys, P => xs.length + ys.length ≤ sizeLine ∧ P (.lst (xs ++ ys))
  | _, _, _ => False
theorem oAdd_mono : OMono oAdd := ⟨fun d e P P' h p => by
  unfold oAdd at p ⊢
  split at p <;> first
    | exact h _ p
    | exact ⟨p.1, h _ p.2⟩
    | exact p.elim⟩
def rAdd4 (K : PySem.W.Frag) : R2 := fun x y H Q => rI0 (fun i j => .int (i + j)) x y H Q ∨ ((∃ i j, x = .str i ∧ y = .str j ∧ i.length + j.length ≤ sizeLine ∧ Q (.str (i ++ j)) H) ∨ (rCatA K x y H Q ∨ rCat x y H Q))
theorem opR_add {X : Cx} : OpR X (binaryOp .Add) (rAdd4 X.K) := OpR.or op_add (OpR.or op_add_str (OpR.or op_catA op_cat))
theorem opD_add {K : PySem.W.Frag} : OpD K .fr (rAdd4 K) oAdd := by
  intro R H x y d e P Q s hx hy ho q
  unfold oAdd at ho
  split at ho
  · rename_i i j
    exact .inl ⟨i, j, hx.int, hy.int, q _ _ R H ho (Gw.refl s) (.nl at_int rfl)⟩
  · rename_i i j
    exact .inr (.inl ⟨i, j, hx.str, hy.str, ho.1, q _ _ R H ho.2 (Gw.refl s) (.nl at_str rfl)⟩)
  · rename_i xs ys
    obtain ⟨a, vs, e1, h1, l1⟩ := hx.tup s
    obtain ⟨b, ws, e2, h2, l2⟩ := hy.tup s
    refine .inr (.inr (.inl ⟨a, b, vs, ws, e1, e2, h1, h2, by rw [← l1.len, ← l2.len]; exact ho.1, fun z => ?_, fun _ z => ?_, fun _ _ p hp => ?_⟩))
    · subst z
      have z2 : xs = [] := List.length_eq_zero_iff.mp l1.len
      subst z2
      refine q _ _ R H ho.2 (Gw.refl s) (.nl ?_ rfl)
      rw [← e2]
      rcases hy with hy | ⟨_, _, _, z, _⟩
      · exact hy
      · cases z
    · subst z
      have z2 : ys = [] := List.length_eq_zero_iff.mp l2.len
      subst z2
      refine q _ _ R H ho.2 (Gw.refl s) (.nl ?_ rfl)
      rw [← e1, List.append_nil]
      rcases hx with hx | ⟨_, _, _, z, _⟩
      · exact hx
      · cases z
    · exact q _ _ _ _ ho.2 (Gw.new s hp) (.nl (at_new s hp (l1.app l2)) rfl)
  · rename_i xs ys
    obtain ⟨a, vs, e1, h1, l1⟩ := hx.lst s
    obtain ⟨b, ws, e2, h2, l2⟩ := hy.lst s
    exact .inr (.inr (.inr ⟨a, b, vs, ws, e1, e2, h1, h2, by rw [← l1.len, ← l2.len]; exact ho.1, fun p hp => q _ _ _ _ ho.2 (Gw.own s hp) (.lst s hp (l1.app l2))⟩))
  · exact ho.elim
/-- - -/
def oSub : DOp
  | .int i, .int j, P => P (.int (i - j))
  | _, _, _ => False
theorem oSub_mono : OMono oSub := ⟨fun d e P P' h p => by
  unfold oSub at p ⊢
  split at p <;> first
    | exact h _ p
    | exact p.elim⟩
theorem opD_sub {K : PySem.W.Frag} : OpD K .fr (rI0 fun i j => .int (i - j)) oSub := by
  intro R H x y d e P Q s hx hy ho q
  unfold oSub at ho
  split at ho
  · rename_i i j
    exact ⟨i, j, hx.int, hy.int, q _ _ R H ho (Gw.refl s) (.nl at_int rfl)⟩
  · exact ho.elim
/-- * of ints -/
def MulOk (i j : Int) : Prop := CMul i j ∨ CMulW i j
theorem opR_mulI {X : Cx} : OpR X (binaryOp .Mult) (rI MulOk fun i j => .int (i * j)) := opI fun _ _ _ _ _ _ _ hc q => mul_int q (by rcases hc with h | h; exact h.ok; exact h.ok)
def oMul : DOp
  | .int i, .int j, P => MulOk i j ∧ P (.int (i * j))
  | .tup xs, .int k, P => xs ≠ [] ∧ 2 ≤ k ∧ k ≤ 1000 ∧ xs.length ≤ 1000 ∧ P (.tup (List.replicate k.toNat xs).flatten)
  | .lst xs, .int k, P => -(2 ^ 63) ≤ k ∧ k < 2 ^ 63 ∧ xs.length * k.toNat ≤ sizeLine ∧ P (.lst (List.replicate k.toNat xs).flatten)
  | _, _, _ => False
theorem oMul_mono : OMono oMul := ⟨fun d e P P' h p => by
  unfold oMul at p ⊢
  split at p
  · exact ⟨p.1, h _ p.2⟩
  · exact ⟨p.1, p.2.1, p.2.2.1, p.2.2.2.1, h _ p.2.2.2.2⟩
  · exact ⟨p.1, p.2.1, p.2.2.1, h _ p.2.2.2⟩
  · exact p.elim⟩

theorem AtL.rep {K : PySem.W.Frag} {R : Hp} {ds : List D} {vs : List V} (h : AtL K R ds vs) : ∀ n : Nat, AtL K R (List.replicate n ds).flatten (List.replicate n vs).flatten
  | 0 => AtL.nil
  | n + 1 => by
    rw [List.replicate_succ, List.replicate_succ, List.flatten_cons, List.flatten_cons]
    exact h.app (AtL.rep h n)
def rMul3 (K : PySem.W.Frag) : R2 := fun x y H Q => rI MulOk (fun i j => .int (i * j)) x y H Q ∨ (rRepT K x y H Q ∨ rRep x y H Q)
theorem opR_mul {X : Cx} : OpR X (binaryOp .Mult) (rMul3 X.K) := OpR.or opR_mulI (OpR.or op_repT op_rep)
theorem opD_mul {K : PySem.W.Frag} : OpD K .fr (rMul3 K) oMul := by
  intro R H x y d e P Q s hx hy ho q
  unfold oMul at ho
  split at ho
  · rename_i i j
    exact .inl ⟨i, j, hx.int, hy.int, ho.1, q _ _ R H ho.2 (Gw.refl s) (.nl at_int rfl)⟩
  · rename_i xs k
    obtain ⟨a, vs, e1, h1, l1⟩ := hx.tup s
    refine .inr (.inl ⟨a, k, vs, e1, hy.int, h1, fun z => ho.1 ?_, ho.2.1, ho.2.2.1, by rw [← l1.len]; exact ho.2.2.2.1, fun p hp => ?_⟩)
    · subst z; exact List.length_eq_zero_iff.mp l1.len
    · exact q _ _ _ _ ho.2.2.2.2 (Gw.new s hp) (.nl (at_new s hp (l1.rep _)) rfl)
  · rename_i xs k
    obtain ⟨a, vs, e1, h1, l1⟩ := hx.lst s
    exact .inr (.inr ⟨a, k, vs, e1, hy.int, h1, ho.1, ho.2.1, by rw [← l1.len]; exact ho.2.2.1, fun p hp => q _ _ _ _ ho.2.2.2 (Gw.own s hp) (.lst s hp (l1.rep _))⟩)
  · exact ho.elim
/-- //, % -/
def DivOk (i j : Int) : Prop := CDivN i j ∨ CDivW i j
theorem opR_fdiv {X : Cx} : OpR X (binaryOp .FloorDiv) (rI DivOk fun i j => .int (i.fdiv j)) := opI fun i j _ _ _ _ _ hc q => by
  rcases hc with hc | hc
  · exact floordiv_int hc.1 q (.inl (PyProof.noPylong_small hc.2))
  · exact floordiv_int (by have := hc.1; omega) q (.inl (PyProof.noPylong_of_log2 hc.2))
def oII (C : Int → Int → Prop) (g : Int → Int → D) : DOp
  | .int i, .int j, P => C i j ∧ P (g i j)
  | _, _, _ => False
theorem oII_mono {C : Int → Int → Prop} {g : Int → Int → D} : OMono (oII C g) := ⟨fun d e P P' h p => by
  unfold oII at p ⊢
  split at p
  · exact ⟨p.1, h _ p.2⟩
  · exact p.elim⟩
def oII0 (g : Int → Int → D) : DOp
  | .int i, .int j, P => P (g i j)
  | _, _, _ => False
theorem oII0_mono {g : Int → Int → D} : OMono (oII0 g) := ⟨fun d e P P' h p => by
  unfold oII0 at p ⊢
  split at p
  · exact h _ p
  · exact p.elim⟩
theorem opD_II {K : PySem.W.Frag} {C : Int → Int → Prop} {g : Int → Int → D} {gv : Int → Int → V} (hg : ∀ i j R, At K R (g i j) (gv i j)) (hl : ∀ i j, isL (some (g i j)) = false) : OpD K .fr (rI C gv) (oII C g) :=
  opD_imp (opD_I hg hl) fun d e P p => by
    unfold oII at p
    split at p
    · exact ⟨_, _, rfl, rfl, p.1, p.2⟩
    · exact p.elim
theorem opD_II0 {K : PySem.W.Frag} {g : Int → Int → D} {gv : Int → Int → V} (hg : ∀ i j R, At K R (g i j) (gv i j)) (hl : ∀ i j, isL (some (g i j)) = false) : OpD K .fr (rI0 gv) (oII0 g) :=
  opD_imp (opD_I0 hg hl) fun d e P p => by
    unfold oII0 at p
    split at p
    · exact ⟨_, _, rfl, rfl, True.intro, p⟩
    · exact p.elim
abbrev oFdiv : DOp := oII DivOk fun i j => .int (i.fdiv j)
abbrev oMod : DOp := oII (fun _ j => j ≠ 0) fun i j => .int (i.fmod j)
abbrev oPow : DOp := oII CPow fun i j => .int (i ^ j.toNat)
abbrev oLt : DOp := oII0 fun i j => .bl (decide (i < j))
abbrev oLe : DOp := oII0 fun i j => .bl (decide (i ≤ j))
abbrev oGt : DOp := oII0 fun i j => .bl (decide (j < i))
abbrev oGe : DOp := oII0 fun i j => .bl (decide (j ≤ i))
theorem opD_fdiv {K : PySem.W.Frag} : OpD K .fr (rI DivOk fun i j => .int (i.fdiv j)) oFdiv := opD_II (fun _ _ _ => at_int) fun _ _ => rfl
theorem opD_mod {K : PySem.W.Frag} : OpD K .fr (rI (fun _ j => j ≠ 0) fun i j => .int (i.fmod j)) oMod := opD_II (fun _ _ _ => at_int) fun _ _ => rfl
theorem opD_pow {K : PySem.W.Frag} : OpD K .fr (rI CPow fun i j => .int (i ^ j.toNat)) oPow := opD_II (fun _ _ _ => at_int) fun _ _ => rfl
theorem opD_lt {K : PySem.W.Frag} : OpD K .fr (rI0 fun i j => .bl (decide (i < j))) oLt := opD_II0 (fun _ _ _ => at_bl) fun _ _ => rfl
theorem opD_le {K : PySem.W.Frag} : OpD K .fr (rI0 fun i j => .bl (decide (i ≤ j))) oLe := opD_II0 (fun _ _ _ => at_bl) fun _ _ => rfl
theorem opD_gt {K : PySem.W.Frag} : OpD K .fr (rI0 fun i j => .bl (decide (j < i))) oGt := opD_II0 (fun _ _ _ => at_bl) fun _ _ => rfl
theorem opD_ge {K : PySem.W.Frag} : OpD K .fr (rI0 fun i j => .bl (decide (j ≤ i))) oGe := opD_II0 (fun _ _ _ => at_bl) fun _ _ => rfl
/-- ==, != of data -/
def oEq : DOp := fun d e P => okD 60 d = true ∧ okD 60 e = true ∧ P (.bl (eqD d e))
def oNe : DOp := fun d e P => okD 60 d = true ∧ okD 60 e = true ∧ P (.bl (!eqD d e))
theorem oEq_mono : OMono oEq := ⟨fun d e P P' h p => ⟨p.1, p.2.1, h _ p.2.2⟩⟩
theorem oNe_mono : OMono oNe := ⟨fun d e P P' h p => ⟨p.1, p.2.1, h _ p.2.2⟩⟩
theorem Rdv.dp {K : PySem.W.Frag} {R H : Hp} {d : D} {v : V} {n : Nat} (s : Same R H) (h : Rdv K R H d v) (o : okD n d = true) : Dp K H v (py d) := by
  rcases h with h | ⟨ds, p, vs, e1, e2, e3, e4⟩
  · exact okD_dp d n v o (At.mono s d v h)
  · subst e1 e2
    cases n with
    | zero => unfold okD at o; cases o
    | succ n =>
      unfold okD at o; unfold py
      exact .lst (.inl (.inl e3)) (okL_dp ds n vs o (AtL.mono s ds vs e4))
theorem opD_eq {K : PySem.W.Frag} : OpD K .fr (rEqD K) oEq := by
  intro R H x y d e P Q s hx hy ho q
  exact ⟨py d, py e, hx.dp s ho.1, hy.dp s ho.2.1, okD_shaped ho.1, okD_shaped ho.2.1, q _ _ R H ho.2.2 (Gw.refl s) (.nl at_bl rfl)⟩
theorem opD_ne {K : PySem.W.Frag} : OpD K .fr (rNeD K) oNe := by
  intro R H x y d e P Q s hx hy ho q
  exact ⟨py d, py e, hx.dp s ho.1, hy.dp s ho.2.1, okD_shaped ho.1, okD_shaped ho.2.1, q _ _ R H ho.2.2 (Gw.refl s) (.nl at_bl rfl)⟩
/-- is None, is not None -/
def isN : D → Bool
  | .non => true
  | _ => false
theorem Rdv.isN {K : PySem.W.Frag} {R H : Hp} {d : D} {v : V} (h : Rdv K R H d v) : decide (v = .non) = isN d := by
  rcases h with h | ⟨ds, p, vs, e1, e2, e3, e4⟩
  · cases d with
    | non => unfold At at h; subst h; rfl
    | bl b => unfold At at h; subst h; rfl
    | int b => unfold At at h; subst h; rfl
    | str b => unfold At at h; subst h; rfl
    | ref b => unfold At at h; subst h; rfl
    | tup ds => unfold At at h; obtain ⟨a, vs, e, _⟩ := h; subst e; rfl
    | lst ds => unfold At at h; obtain ⟨a, vs, e, _⟩ := h; subst e; rfl
    | frz ds => unfold At at h; obtain ⟨a, vs, e, _⟩ := h; subst e; rfl
    | ins _ _ _ _ => unfold At at h; obtain ⟨e, _⟩ := h; subst e; rfl
    | dic _ _ => unfold At at h; obtain ⟨a, vs, e, _⟩ := h; subst e; rfl
  · subst e1 e2; rfl
def oIsN : DOp := fun d e P => e = .non ∧ P (.bl (isN d))
def oNotN : DOp := fun d e P => e = .non ∧ P (.bl (!isN d))
theorem oIsN_mono : OMono oIsN := ⟨fun d e P P' h p => ⟨p.1, h _ p.2⟩⟩
theorem oNotN_mono : OMono oNotN := ⟨fun d e P P' h p => ⟨p.1, h _ p.2⟩⟩
theorem opD_isN {K : PySem.W.Frag} : OpD K .fr (fun x y H Q => y = .non ∧ Q (.bl (decide (x = .non))) H) oIsN := by
  intro R H x y d e P Q s hx hy ho q
  obtain ⟨rfl, p⟩ := ho
  exact ⟨hy.non, q _ _ R H p (Gw.refl s) (.nl (by rw [hx.isN]; exact at_bl) rfl)⟩
theorem opD_notN {K : PySem.W.Frag} : OpD K .fr (fun x y H Q => y = .non ∧ Q (.bl (!decide (x = .non))) H) oNotN := by
  intro R H x y d e P Q s hx hy ho q
  obtain ⟨rfl, p⟩ := ho
  exact ⟨hy.non, q _ _ R H p (Gw.refl s) (.nl (by rw [hx.isN]; exact at_bl) rfl)⟩
end DL
set_option Elab.async false
set_option linter.all false
set_option maxRecDepth 100000
set_option maxHeartbeats 1000000
/-! subscripts, slices, tests, displays, calls of built-ins -/
namespace DL
open PySem PySem.Spec L2
open PyProof.Rows hiding St

/-- a value that must be there -/
def onS {α : Type} (o : Option α) (F : α → Prop) : Prop := match o with
  | some a => F a
  | none => False
theorem onS_some {α : Type} {a : α} {F : α → Prop} : onS (some a) F = F a := rfl
theorem onS_none {α : Type} {F : α → Prop} : onS none F = False := rfl
theorem onS_mono {α : Type} {o : Option α} {F G : α → Prop} (h : ∀ a, F a → G a) (p : onS o F) : onS o G := by
  cases o with
  | none => exact p
  | some a => exact h a p
theorem onS_inv {α : Type} {o : Option α} {F : α → Prop} (p : onS o F) : ∃ a, o = some a ∧ F a := by
  cases o with
  | none => exact p.elim
  | some a => exact ⟨a, rfl, p⟩
/-! ### a[i] -/
def oIx : DOp
  | .lst ds, .int i, P => onS (atI ds i) P
  | .tup ds, .int i, P => onS (atI ds i) P
  | .frz ds, .int i, P => onS (atI ds i) P
  | .str z, .int i, P => z.length ≤ sizeLine ∧ onS (atI z.cps.toList i) fun c => P (.str ⟨#[c]⟩)
  | _, _, _ => False
theorem oIx_mono : OMono oIx := ⟨fun d e P P' h p => by
  unfold oIx at p ⊢
  split at p
  · exact onS_mono h p
  · exact onS_mono h p
  · exact onS_mono h p
  · exact ⟨p.1, onS_mono (fun c q => h _ q) p.2⟩
  · exact p.elim⟩
theorem AtL.atI {K : PySem.W.Frag} {R : Hp} {ds : List D} {vs : List V} {i : Int} {d : D} (h : AtL K R ds vs) (e : L2.atI ds i = some d) : ∃ v, L2.atI vs i = some v ∧ At K R d v := by
  unfold L2.atI at e ⊢
  rw [← h.len]
  cases z : ixN ds.length i with
  | none => rw [z] at e; cases e
  | some j =>
    rw [z] at e
    exact h.get e
theorem opD_ix {K : PySem.W.Frag} : OpD K .pu (rIx K) oIx := by
  intro R H x y d e P Q s hx hy ho q
  unfold oIx at ho
  split at ho
  · rename_i ds i
    obtain ⟨z, hz, ho⟩ := onS_inv ho
    obtain ⟨a, vs, e1, h1, l1⟩ := hx.lst s
    obtain ⟨v, h2, h3⟩ := l1.atI hz
    exact .inl ⟨a, vs, i, v, e1, hy.int, .inl (.inl h1), h2, q _ _ R H ho (Gw.refl s) h3⟩
  · rename_i ds i
    obtain ⟨z, hz, ho⟩ := onS_inv ho
    obtain ⟨a, vs, e1, h1, l1⟩ := hx.tup s
    obtain ⟨v, h2, h3⟩ := l1.atI hz
    exact .inr (.inl ⟨a, vs, i, v, e1, hy.int, h1, h2, q _ _ R H ho (Gw.refl s) h3⟩)
  · rename_i ds i
    obtain ⟨z, hz, ho⟩ := onS_inv ho
    obtain ⟨a, vs, e1, h1, l1⟩ := hx.frz s
    obtain ⟨v, h2, h3⟩ := l1.atI hz
    exact .inl ⟨a, vs, i, v, e1, hy.int, h1, h2, q _ _ R H ho (Gw.refl s) h3⟩
  · rename_i z i
    obtain ⟨hz, ho⟩ := ho
    obtain ⟨c, hc, ho⟩ := onS_inv ho
    exact .inr (.inr ⟨z, i, c, hx.str, hy.int, hz, hc, q _ _ R H ho (Gw.refl s) (show At K R (.str _) _ from at_str)⟩)
  · exact ho.elim
section
variable {σ : St} {H R : Hp} {ε : DEnv} {X : Cx} {c : Ctx} {W : WX} {Γ : List Md} {a b e : Expr} {es : List Expr} {k ka kb : Kd} {u ua ub uc : Bool} {w wa wb wc : DTE} {pos pos' p p2 : Pos} {r r' : R2} {o o' : DOp} {x : Str}
theorem de_ix (ha : DE X c W Γ a ka ua wa) (hb : DE X c W Γ b kb ub wb) (hs : PlainIx b) (hk : ka = .rd → ub = false := by decide) : DE X c W Γ (.Subscript a b pos) .pu (ua || ub) (wOp oIx wa wb) :=
  de_tOp opD_ix oIx_mono ha hb hk fun _ _ pa pb => pe_ix ix_seq pa pb hs
theorem Rel.has (r : Rel X.K c Γ σ H ε R) {i : Nat} {d : D} (h : sl ε i = some d) : ∃ v, σ[i]? = some (some v) ∧ Rdv X.K R H d v := by
  by_cases hm : md Γ i = .sh
  · obtain ⟨v, h1, h2⟩ := r.pure i d h (.inl hm)
    exact ⟨v, h1, .inl h2⟩
  · rcases isL_cases d with ⟨ds, el⟩ | el
    · subst el
      obtain ⟨p', vs, h1, h2, _, h3, _⟩ := r.own i ds h hm
      exact ⟨_, h1, .inr ⟨ds, p', vs, rfl, rfl, h2, h3⟩⟩
    · obtain ⟨v, h1, h2⟩ := r.pure i d h (.inr el)
      exact ⟨v, h1, .inl h2⟩
/-- an owned list's item: the place is asked first -/
def wIxO (i : Nat) (wb : DTE) : DTE := fun E ε P => (∃ d, sl ε i = some d) ∧ wb E ε fun y ε1 => onS (sl ε1 i) fun d => oIx d y fun z => P z ε1
theorem de_ixO (i : Nat) (hi : X.N[i]? = some x := by rfl) (hv : Vis X.env.scope x := by first | exact Or.inl rfl | exact Or.inr (Or.inl rfl) | exact Or.inr (Or.inr rfl)) (hb : DE X c W Γ b kb ub wb) (hs : PlainIx b)
    (hd : (x == ("__debug__" : Str)) = false := by decide) (hcd : (x == ("__classdict__" : Str)) = false := by decide) : DE X c W Γ (.Subscript (.Name x p) b pos) .pu ub (wIxO i wb) := by
  obtain ⟨⟨tb, pb, sb⟩, mb⟩ := hb
  refine ⟨⟨_, pe_ix ix_seq (pe_var hi hv hd hcd) pb hs, fun σ H ε R E P Q r x p q => ?_⟩, fun E ε P P' h p => ⟨p.1, mb _ _ _ _ (fun y ε1 q => onS_mono (fun d q => oIx_mono.m _ _ _ _ (fun z q => h _ _ q) q) q) p.2⟩⟩
  obtain ⟨⟨d0, hd0⟩, p⟩ := p
  obtain ⟨v, hv, _⟩ := r.has hd0
  refine ⟨v, hv, sb σ H ε R E _ _ r x p fun y ε1 v' H1 R1 p1 r1 s1 v1 => ?_⟩
  obtain ⟨d, hd2, p1⟩ := onS_inv p1
  obtain ⟨v2, hv2, hr⟩ := r1.has hd2
  have e : v2 = v := by rw [hv] at hv2; injection hv2 with z; injection z with z; exact z.symm
  subst e
  refine opD_ix R1 H1 v2 v' d y _ _ r1.sub hr v1.rdv p1 fun z v3 R' H' pz g vn => ?_
  have s3 := s1.trans (g.stp (Γ := Γ) (σ := σ) (ε := ε1))
  rw [Bool.or_false] at s3
  exact q z ε1 v3 H' R' pz (g.rel r1) s3 (vn.val r1 s1)
/-! ### a[lo:hi] -/
abbrev DTO := DEx → DEnv → (Option Int → DEnv → Prop) → Prop
structure DO (X : Cx) (c : Ctx) (W : WX) (Γ : List Md) (e : Option Expr) (u : Bool) (w : DTO) : Prop where
  run : ∃ t, PO X e t ∧ ∀ σ H ε R E P Q, Rel X.K c Γ σ H ε R → ExcOK X.K c W E → w E ε P →
    (∀ d ε' H' R', P d ε' → Rel X.K c Γ σ H' ε' R' → Stp u Γ σ ε R H ε' R' H' → Q d H') → t σ H Q
  mono : ∀ E ε P P', (∀ d ε', P d ε' → P' d ε') → w E ε P → w E ε P'
def wNoPart : DTO := fun _ ε P => P none ε
def asI : D → Option Int
  | .int i => some i
  | _ => none
theorem asI_inv {d : D} {i : Int} (h : asI d = some i) : d = .int i := by
  cases d <;> first | (injection h with h; rw [h]) | cases h
def wPart (w : DTE) : DTO := fun E ε P => w E ε fun d ε1 => onS (asI d) fun i => P (some i) ε1
theorem do_none : DO X c W Γ none false wNoPart := ⟨⟨_, po_none, fun σ H ε R E P Q r _ p q => q none ε H R p r Stp.refl⟩, fun _ _ _ _ h p => h _ _ p⟩
theorem do_some (h : DE X c W Γ e k u w) : DO X c W Γ (some e) u (wPart w) := by
  obtain ⟨⟨t, pe, s⟩, m⟩ := h
  refine ⟨⟨_, po_some pe, fun σ H ε R E P Q r x p q => ?_⟩, fun E ε P P' h p => m _ _ _ _ (fun d ε1 q => onS_mono (fun _ q => h _ _ q) q) p⟩
  refine s σ H ε R E _ _ r x p fun d ε1 v H1 R1 p1 r1 s1 v1 => ?_
  obtain ⟨i, hi, p1⟩ := onS_inv p1
  have := asI_inv hi
  subst this
  exact ⟨i, v1.rdv.int, q _ ε1 H1 R1 p1 r1 s1⟩
def cutD (ds : List D) (lo hi : Option Int) : List D := (ds.drop (HT.sIx ds.length 0 lo)).take (HT.sIx ds.length ds.length hi - HT.sIx ds.length 0 lo)
def oSl (lo hi : Option Int) : D → (D → Prop) → Prop
  | .lst ds, P => P (.lst (cutD ds lo hi))
  | .tup ds, P => P (.tup (cutD ds lo hi))
  | .str z, P => z.length ≤ sizeLine ∧ P (.str (cutS z lo hi))
  | _, _ => False
theorem AtL.cut {K : PySem.W.Frag} {R : Hp} {ds : List D} {vs : List V} (h : AtL K R ds vs) (lo hi : Option Int) : AtL K R (cutD ds lo hi) (cutV vs lo hi) := by
  unfold cutD cutV
  rw [← h.len]
  exact (h.drop _).take _
def rSl3 (K : PySem.W.Frag) : V → Option Int → Option Int → Hp → VK → Prop := fun x lo hi H Q => rSlL K x lo hi H Q ∨ (rSlA K x lo hi H Q ∨ rSlS x lo hi H Q)
theorem slR3 : SlR X (rSl3 X.K) := SlR.or sl_list (SlR.or sl_tupA sl_str)
theorem cut_whole {ds : List D} {lo hi : Option Int} (h1 : HT.sIx ds.length 0 lo = 0) (h2 : HT.sIx ds.length ds.length hi = ds.length) : cutD ds lo hi = ds := by
  unfold cutD
  rw [h1, h2, List.drop_zero, Nat.sub_zero, List.take_length]
def wSl (w : DTE) (l h : DTO) : DTE := fun E ε P => w E ε fun d ε1 => l E ε1 fun lo ε2 => h E ε2 fun hi ε3 => oSl lo hi d fun z => P z ε3
theorem oSl_mono {lo hi : Option Int} {d : D} {P P' : D → Prop} (h : ∀ z, P z → P' z) (p : oSl lo hi d P) : oSl lo hi d P' := by
  unfold oSl at p ⊢
  split at p
  · exact h _ p
  · exact h _ p
  · exact ⟨p.1, h _ p.2⟩
  · exact p.elim
theorem de_sl {lo hi : Option Expr} {wl wh : DTO} {ul uh : Bool} (ha : DE X c W Γ a ka ua wa) (hl : DO X c W Γ lo ul wl) (hh : DO X c W Γ hi uh wh) (hk : ka = .rd → (ul || uh) = false := by decide) :
    DE X c W Γ (.Subscript a (.Slice lo hi none p2) pos) .fr (ua || (ul || uh)) (wSl wa wl wh) := by
  obtain ⟨⟨ta, pa, sa⟩, ma⟩ := ha
  obtain ⟨⟨tl, pl, sl'⟩, ml⟩ := hl
  obtain ⟨⟨th, ph, sh⟩, mh⟩ := hh
  refine ⟨⟨_, pe_slice slR3 pa pl ph, fun σ H ε R E P Q r x p q => ?_⟩, fun E ε P P' h p => ma _ _ _ _ (fun d ε1 q => ml _ _ _ _ (fun lo ε2 q => mh _ _ _ _ (fun hi ε3 q => oSl_mono (fun z q => h _ _ q) q) q) q) p⟩
  refine sa σ H ε R E _ _ r x p fun d ε1 v H1 R1 p1 r1 s1 v1 => ?_
  refine sl' σ H1 ε1 R1 E _ _ r1 x p1 fun lo ε2 H2 R2 p2 r2 s2 => ?_
  refine sh σ H2 ε2 R2 E _ _ r2 x p2 fun hi ε3 H3 R3 p3 r3 s3 => ?_
  have s13 := s2.trans s3
  have s03 := s1.trans s13
  have hv := v1.rdv_on s13 hk
  have fin : ∀ {z : D} {v3 : V} {R' H' : Hp}, P z ε3 → Gw R3 H3 R' H' → ValN X.K H3 R' H' z v3 .fr → Q v3 H' := fun {z v3 R' H'} pz g vn => by
    have s4 := s03.trans (g.stp (Γ := Γ) (σ := σ) (ε := ε3))
    rw [Bool.or_false] at s4
    exact q z ε3 v3 H' R' pz (g.rel r3) s4 (vn.val r3 s03)
  unfold oSl at p3
  split at p3
  · rename_i ds
    obtain ⟨b, vs, e1, h1, l1⟩ := hv.lst r3.sub
    exact .inl ⟨b, vs, e1, .inl (.inl h1), fun p hp => fin p3 (Gw.own r3.sub hp) (.lst r3.sub hp (l1.cut lo hi))⟩
  · rename_i ds
    obtain ⟨b, vs, e1, h1, l1⟩ := hv.tup r3.sub
    refine .inr (.inl ⟨b, vs, e1, h1, fun z => ?_, fun _ p hp => ?_⟩)
    · rw [← l1.len] at z
      rw [cut_whole z.1 z.2] at p3
      refine fin p3 (Gw.refl r3.sub) (.nl ?_ rfl)
      rw [← e1]
      rcases hv with hv | ⟨_, _, _, z, _⟩
      · exact hv
      · cases z
    · exact fin p3 (Gw.new r3.sub hp) (.nl (at_new r3.sub hp (l1.cut lo hi)) rfl)
  · rename_i z
    exact .inr (.inr ⟨z, hv.str, p3.1, fin p3.2 (Gw.refl r3.sub) (.nl at_str rfl)⟩)
  · exact p3.elim
/-! ### one value -/
abbrev DUn := D → (D → Prop) → Prop
def UnD (K : PySem.W.Frag) (k : Kd) (r : V → Hp → VK → Prop) (o : DUn) : Prop :=
  ∀ R H x d P Q, Same R H → Rdv K R H d x → o d P → (∀ z v R' H', P z → Gw R H R' H' → ValN K H R' H' z v k → Q v H') → r x H Q
def UMono (o : DUn) : Prop := ∀ d P P', (∀ z, P z → P' z) → o d P → o d P'
def wUn (o : DUn) (w : DTE) : DTE := fun E ε P => w E ε fun d ε1 => o d fun z => P z ε1
theorem de_tUn {e' : Expr} {r : V → Hp → VK → Prop} {o : DUn} (ho : UnD X.K k r o) (hm : UMono o) (ha : DE X c W Γ a ka ua wa) (he : ∀ ta, PE X a ta → PE X e' (tUn r ta)) : DE X c W Γ e' k ua (wUn o wa) := by
  obtain ⟨⟨ta, pa, sa⟩, ma⟩ := ha
  refine ⟨⟨_, he ta pa, fun σ H ε R E P Q r x p q => ?_⟩, fun E ε P P' h p => ma _ _ _ _ (fun d ε1 q => hm _ _ _ (fun z q => h _ _ q) q) p⟩
  refine sa σ H ε R E _ _ r x p fun d ε1 v H1 R1 p1 r1 s1 v1 => ?_
  refine ho R1 H1 v d _ _ r1.sub v1.rdv p1 fun z v3 R' H' pz g vn => ?_
  have s3 := s1.trans (g.stp (Γ := Γ) (σ := σ) (ε := ε1))
  rw [Bool.or_false] at s3
  exact q z ε1 v3 H' R' pz (g.rel r1) s3 (vn.val r1 s1)
def oNeg : DUn
  | .int i, P => P (.int (-i))
  | _, _ => False
theorem oNeg_mono : UMono oNeg := fun d P P' h p => by
  unfold oNeg at p ⊢
  split at p
  · exact h _ p
  · exact p.elim
theorem de_neg (ha : DE X c W Γ a ka ua wa) : DE X c W Γ (.UnaryOp .USub a pos) .fr ua (wUn oNeg wa) :=
  de_tUn (r := rU fun i => .int (-i)) (fun R H x d P Q s hx ho q => by
    unfold oNeg at ho
    split at ho
    · exact ⟨_, hx.int, q _ _ R H ho (Gw.refl s) (.nl at_int rfl)⟩
    · exact ho.elim) oNeg_mono ha fun _ pa => pe_un un_neg pa
end
end DL
set_option Elab.async false
set_option linter.all false
set_option maxRecDepth 100000
set_option maxHeartbeats 1000000
/-! tests, and | or | not, chains, displays, calls -/
namespace DL
open PySem PySem.Spec L2
open PyProof.Rows hiding St

def asB : D → Option Bool
  | .bl b => some b
  | _ => none
theorem asB_inv {d : D} {i : Bool} (h : asB d = some i) : d = .bl i := by
  cases d <;> first | (injection h with h; rw [h]) | cases h
/-- truth -/
def truD : D → Option Bool
  | .non => some false
  | .bl b => some b
  | .int i => some (i != 0)
  | .str x => if x.length ≤ sizeLine then some ((x.length : Int) != 0) else none
  | .tup ds => some (!ds.isEmpty)
  | .lst ds => some (!ds.isEmpty)
  | .frz ds => some (!ds.isEmpty)
  | .ins _ _ _ _ => none
  | .dic _ ds => some (!ds.isEmpty)
  | .ref _ => none
section
variable {K : PySem.W.Frag} {R H : Hp} {d : D} {v : V} {b : Bool}
theorem AtL.isEmpty {ds : List D} {vs : List V} (h : AtL K R ds vs) : vs.isEmpty = ds.isEmpty := by
  cases ds with
  | nil => rw [h.inv0]; rfl
  | cons d ds => obtain ⟨v, ws, e, _⟩ := h.inv; subst e; rfl
theorem Rdv.tru (s : Same R H) (h : Rdv K R H d v) (e : truD d = some b) : TruV K v H b := by
  cases d with
  | non => rw [h.non]; injection e with e; exact e.symm
  | bl i => rw [h.bl]; injection e with e; exact e.symm
  | int i => rw [h.int]; injection e with e; exact e.symm
  | str i =>
    rw [h.str]
    have e' : (if i.length ≤ sizeLine then some ((i.length : Int) != 0) else none) = some b := e
    by_cases hz : i.length ≤ sizeLine
    · rw [if_pos hz] at e'
      injection e' with e; exact ⟨hz, e.symm⟩
    · rw [if_neg hz] at e'; cases e'
  | tup ds =>
    obtain ⟨a, vs, e1, h1, l1⟩ := h.tup s
    subst e1
    injection e with e
    exact .inr (.inl ⟨vs, h1, by rw [l1.isEmpty]; exact e.symm⟩)
  | lst ds =>
    obtain ⟨a, vs, e1, h1, l1⟩ := h.lst s
    subst e1
    injection e with e
    exact .inl ⟨vs, .inl (.inl h1), by rw [l1.isEmpty]; exact e.symm⟩
  | frz ds =>
    obtain ⟨a, vs, e1, h1, l1⟩ := h.frz s
    subst e1
    injection e with e
    exact .inl ⟨vs, h1, by rw [l1.isEmpty]; exact e.symm⟩
  | ins _ _ _ _ => cases e
  | ref _ => cases e
  | dic ks ds =>
    rcases h with h | ⟨_, _, _, z, _⟩
    · unfold At at h
      obtain ⟨a, vs, e1, h1, h2, l1⟩ := h
      subst e1
      injection e with e
      refine .inr (.inr ⟨_, s _ _ h1, ?_⟩)
      rw [← e]
      have : (ks.zip vs).isEmpty = ds.isEmpty := by
        rw [← l1.isEmpty]
        cases ks with
        | nil => cases vs with
          | nil => rfl
          | cons _ _ => cases h2
        | cons _ _ => cases vs with
          | nil => cases h2
          | cons _ _ => rfl
      rw [this]
    · cases z
end
section
variable {X : Cx} {c : Ctx} {W : WX} {Γ : List Md} {a b e e' : Expr} {es rest : List Expr} {k ka kb kc : Kd} {u ua ub uc : Bool} {w wa wb wc : DTE} {va vb : DTT} {pos pos' p p2 : Pos} {r r' : R2} {o o' : DOp} {x : Str}
/-! ### tests -/
def wTest (w : DTE) : DTT := fun E ε P => w E ε fun d ε1 => onS (asB d) fun b => P b ε1
theorem sndT_test {t : TE} (s : Snd X.K c W Γ t k u w) : SndT X.K c W Γ (tTest t) u (wTest w) := by
  intro σ H ε R E P Q r x p q
  refine s σ H ε R E _ _ r x p fun d ε1 v H1 R1 p1 r1 s1 v1 => ?_
  obtain ⟨b, hb, p1⟩ := onS_inv p1
  have := asB_inv hb
  subst this
  exact ⟨b, v1.rdv.bl, q b ε1 H1 R1 p1 r1 s1⟩
theorem wTest_mono (m : ∀ E ε P P', (∀ d ε', P d ε' → P' d ε') → w E ε P → w E ε P') (E : DEx) (ε : DEnv) (P P' : Bool → DEnv → Prop) (h : ∀ d ε', P d ε' → P' d ε') (p : wTest w E ε P) : wTest w E ε P' :=
  m _ _ _ _ (fun _ _ q => onS_mono (fun _ q => h _ _ q) q) p
theorem dt_cmp {op : CmpOp} (hr : OpR X (compareOp op) r) (ho : OpD X.K k r o) (hm : OMono o) (ha : DE X c W Γ a ka ua wa) (hb : DE X c W Γ b kb ub wb) (hb2 : behindInMarks op b = false) (hk : ka = .rd → ub = false := by decide) :
    DT X c W Γ (.Compare a [op] [b] pos) (ua || ub) (wTest (wOp o wa wb)) := by
  obtain ⟨⟨ta, pa, sa⟩, ma⟩ := ha
  obtain ⟨⟨tb, pb, sb⟩, mb⟩ := hb
  exact ⟨⟨_, pt_cmpR hr pa pb hb2, sndT_test (snd_tOp ho sa sb hk)⟩, wTest_mono (wOp_mono hm ma mb)⟩
/-- a op1 b op2 c -/
def wChain (o o' : DOp) (wa wb wc : DTE) : DTE := fun E ε P => wa E ε fun x ε1 => wb E ε1 fun y ε2 => o x y fun z => onS (asB z) fun b => if b = true then wc E ε2 fun w ε3 => o' y w fun r => P r ε3 else P (.bl false) ε2
theorem snd_chain {ta tb tc : TE} (ho : OpD X.K .fr r o) (ho' : OpD X.K .fr r' o') (sa : Snd X.K c W Γ ta ka ua wa) (sb : Snd X.K c W Γ tb kb ub wb) (sc : Snd X.K c W Γ tc kc uc wc) (hk : ka = .rd → ub = false) (hk2 : kb = .rd → uc = false) :
    Snd X.K c W Γ (tChain r r' ta tb tc) .fr (ua || (ub || uc)) (wChain o o' wa wb wc) := by
  intro σ H ε R E P Q r0 x p q
  refine sa σ H ε R E _ _ r0 x p fun d ε1 v H1 R1 p1 r1 s1 v1 => ?_
  refine sb σ H1 ε1 R1 E _ _ r1 x p1 fun d2 ε2 v' H2 R2 p2 r2 s2 v2 => ?_
  have s12 := s1.trans s2
  refine ho R2 H2 v v' d d2 _ _ r2.sub (v1.rdv_on s2 hk) v2.rdv p2 fun z v3 R' H' pz g vn => ?_
  obtain ⟨b, hb, py⟩ := onS_inv pz
  have := asB_inv hb
  subst this
  have s3 := s12.trans (g.stp (Γ := Γ) (σ := σ) (ε := ε2))
  rw [Bool.or_false] at s3
  have r3 := g.rel r2
  have e3 : v3 = .bl b := by
    have := vn.1 rfl
    unfold At at this
    exact this
  refine ⟨b, e3, ?_⟩
  cases b with
  | true =>
    rw [if_pos rfl] at py
    rw [if_pos rfl]
    refine sc σ H' ε2 R' E _ _ r3 x pz fun d4 ε4 v4 H4 R4 p4 r4 s4 vv4 => ?_
    have v2' : Val X.K Γ σ H1 ε2 R' H' d2 v' kb ∨ Rdv X.K R4 H4 d2 v' := .inr (v2.rdv_on ((g.stp (Γ := Γ) (σ := σ) (ε := ε2)).trans s4) fun z => by rw [Bool.false_or]; exact hk2 z)
    have hy : Rdv X.K R4 H4 d2 v' := (v2.rdv_on ((g.stp (Γ := Γ) (σ := σ) (ε := ε2)).trans s4) fun z => by rw [Bool.false_or]; exact hk2 z)
    refine ho' R4 H4 v' v4 d2 d4 _ _ r4.sub hy vv4.rdv p4 fun z v5 R5 H5 pz5 g5 vn5 => ?_
    have s34 := s3.trans s4
    have s5 := s34.trans (g5.stp (Γ := Γ) (σ := σ) (ε := ε4))
    rw [Bool.or_false, Bool.or_assoc] at s5
    exact q z ε4 v5 H5 R5 pz5 (g5.rel r4) s5 (vn5.val r4 s34)
  | false =>
    rw [if_neg Bool.false_ne_true] at py
    rw [if_neg Bool.false_ne_true]
    refine q _ ε2 _ H' R' py r3 ?_ ⟨fun _ => at_bl, fun ds z => nomatch z⟩
    cases hu : (ua || (ub || uc)) with
    | true => exact s3.any
    | false =>
      rw [← Bool.or_assoc, Bool.or_eq_false_iff] at hu
      rw [hu.1] at s3
      exact s3
theorem wChain_mono (hm : OMono o) (hm' : OMono o') (ma : ∀ E ε P P', (∀ d ε', P d ε' → P' d ε') → wa E ε P → wa E ε P') (mb : ∀ E ε P P', (∀ d ε', P d ε' → P' d ε') → wb E ε P → wb E ε P')
    (mc : ∀ E ε P P', (∀ d ε', P d ε' → P' d ε') → wc E ε P → wc E ε P') (E : DEx) (ε : DEnv) (P P' : D → DEnv → Prop) (h : ∀ d ε', P d ε' → P' d ε') (p : wChain o o' wa wb wc E ε P) : wChain o o' wa wb wc E ε P' :=
  ma _ _ _ _ (fun d ε1 q => mb _ _ _ _ (fun e ε2 q => hm.m _ _ _ _ (fun z q => onS_mono (fun b q => by
    split at q
    · rename_i hb; rw [if_pos hb]; exact mc _ _ _ _ (fun _ _ q => hm'.m _ _ _ _ (fun _ q => h _ _ q) q) q
    · rename_i hb; rw [if_neg hb]; exact h _ _ q) q) q) q) p
theorem de_chain {op op' : CmpOp} (hr : OpR X (compareOp op) r) (hr' : OpR X (compareOp op') r') (ho : OpD X.K .fr r o) (ho' : OpD X.K .fr r' o') (hm : OMono o) (hm' : OMono o') (ha : DE X c W Γ a ka ua wa) (hb : DE X c W Γ b kb ub wb) (hc : DE X c W Γ e kc uc wc)
    (hl : lastMarks [op, op'] [b, e] = false := by with_unfolding_all rfl) (hk : ka = .rd → ub = false := by decide) (hk2 : kb = .rd → uc = false := by decide) : DE X c W Γ (.Compare a [op, op'] [b, e] pos) .fr (ua || (ub || uc)) (wChain o o' wa wb wc) := by
  obtain ⟨⟨ta, pa, sa⟩, ma⟩ := ha
  obtain ⟨⟨tb, pb, sb⟩, mb⟩ := hb
  obtain ⟨⟨tc, pc, sc⟩, mc⟩ := hc
  exact ⟨⟨_, pe_chain hr hr' pa pb pc hl, snd_chain ho ho' sa sb sc hk hk2⟩, wChain_mono hm hm' ma mb mc⟩
theorem dt_chain {op op' : CmpOp} (hr : OpR X (compareOp op) r) (hr' : OpR X (compareOp op') r') (ho : OpD X.K .fr r o) (ho' : OpD X.K .fr r' o') (hm : OMono o) (hm' : OMono o') (ha : DE X c W Γ a ka ua wa) (hb : DE X c W Γ b kb ub wb) (hc : DE X c W Γ e kc uc wc)
    (hl : lastMarks [op, op'] [b, e] = false := by with_unfolding_all rfl) (hk : ka = .rd → ub = false := by decide) (hk2 : kb = .rd → uc = false := by decide) : DT X c W Γ (.Compare a [op, op'] [b, e] pos) (ua || (ub || uc)) (wTest (wChain o o' wa wb wc)) := by
  obtain ⟨⟨ta, pa, sa⟩, ma⟩ := ha
  obtain ⟨⟨tb, pb, sb⟩, mb⟩ := hb
  obtain ⟨⟨tc, pc, sc⟩, mc⟩ := hc
  exact ⟨⟨_, pt_chain hr hr' pa pb pc hl, sndT_test (snd_chain ho ho' sa sb sc hk hk2)⟩, wTest_mono (wChain_mono hm hm' ma mb mc)⟩
/-- any other expression as a test -/
def wTru (w : DTE) : DTT := fun E ε P => w E ε fun d ε1 => onS (truD d) fun b => P b ε1
theorem dt_tru (ha : DE X c W Γ a k u w) (he : ∀ whole, isTrue a X.env whole = (do let v ← whole; standAt a.pos; holding [v] (truthy v)) := by intro _; rfl) : DT X c W Γ a u (wTru w) := by
  obtain ⟨⟨ta, pa, sa⟩, ma⟩ := ha
  refine ⟨⟨_, pt_truth pa he, fun σ H ε R E P Q r x p q => ?_⟩, fun E ε P P' h p => ma _ _ _ _ (fun _ _ q => onS_mono (fun _ q => h _ _ q) q) p⟩
  refine sa σ H ε R E _ _ r x p fun d ε1 v H1 R1 p1 r1 s1 v1 => ?_
  obtain ⟨b, hb, p1⟩ := onS_inv p1
  exact ⟨b, v1.rdv.tru r1.sub hb, q b ε1 H1 R1 p1 r1 s1⟩
def wNotT (v : DTT) : DTT := fun E ε P => v E ε fun b ε1 => P (!b) ε1
theorem dt_not (ha : DT X c W Γ a ua va) : DT X c W Γ (.UnaryOp .Not a pos) ua (wNotT va) := by
  obtain ⟨⟨ta, pa, sa⟩, ma⟩ := ha
  exact ⟨⟨_, pt_not pa, fun σ H ε R E P Q r x p q => sa σ H ε R E _ _ r x p fun d ε1 H1 R1 p1 r1 s1 => q _ ε1 H1 R1 p1 r1 s1⟩, fun E ε P P' h p => ma _ _ _ _ (fun _ _ q => h _ _ q) p⟩
/-- and, or as tests -/
structure DW (X : Cx) (c : Ctx) (W : WX) (Γ : List Md) (e : Expr) (u : Bool) (w : DTT) : Prop where
  run : ∃ t, PW X e t ∧ SndT X.K c W Γ t u w
  mono : ∀ E ε P P', (∀ d ε', P d ε' → P' d ε') → w E ε P → w E ε P'
def wAndT (v v' : DTT) : DTT := fun E ε P => v E ε fun b ε1 => if b = true then v' E ε1 P else P false ε1
def wOrT (v v' : DTT) : DTT := fun E ε P => v E ε fun b ε1 => if b = true then P true ε1 else v' E ε1 P
theorem dw_and1 (ha : DT X c W Γ a ua va) : DW X c W Γ (.BoolOp .And [a] pos) ua va := by
  obtain ⟨⟨ta, pa, sa⟩, ma⟩ := ha
  exact ⟨⟨_, pw_and1 pa, sa⟩, ma⟩
theorem dw_or1 (ha : DT X c W Γ a ua va) : DW X c W Γ (.BoolOp .Or [a] pos) ua va := by
  obtain ⟨⟨ta, pa, sa⟩, ma⟩ := ha
  exact ⟨⟨_, pw_or1 pa, sa⟩, ma⟩
theorem stp_l (s : Stp ua Γ σ ε R H ε' R' H') : Stp (ua || ub) Γ σ ε R H ε' R' H' := by
  cases ub with
  | false => rw [Bool.or_false]; exact s
  | true => rw [Bool.or_true]; exact s.any
theorem dw_and (ha : DT X c W Γ a ua va) (hb : DW X c W Γ (.BoolOp .And (b :: rest) pos) ub vb) : DW X c W Γ (.BoolOp .And (a :: b :: rest) pos) (ua || ub) (wAndT va vb) := by
  obtain ⟨⟨ta, pa, sa⟩, ma⟩ := ha
  obtain ⟨⟨tb, pb, sb⟩, mb⟩ := hb
  refine ⟨⟨_, pw_and pa pb, fun σ H ε R E P Q r x p q => ?_⟩, fun E ε P P' h p => ma _ _ _ _ (fun b ε1 q => ?_) p⟩
  · refine sa σ H ε R E _ _ r x p fun d ε1 H1 R1 p1 r1 s1 => ?_
    cases d with
    | true => exact iteT (sb σ H1 ε1 R1 E _ _ r1 x (by simpa using p1) fun d2 ε2 H2 R2 p2 r2 s2 => q d2 ε2 H2 R2 p2 r2 (s1.trans s2))
    | false => exact iteF (q false ε1 H1 R1 (by simpa using p1) r1 (stp_l s1))
  · cases b with
    | true => exact iteT (mb _ _ _ _ h (by simpa using q))
    | false => exact iteF (h _ _ (by simpa using q))
theorem dw_or (ha : DT X c W Γ a ua va) (hb : DW X c W Γ (.BoolOp .Or (b :: rest) pos) ub vb) : DW X c W Γ (.BoolOp .Or (a :: b :: rest) pos) (ua || ub) (wOrT va vb) := by
  obtain ⟨⟨ta, pa, sa⟩, ma⟩ := ha
  obtain ⟨⟨tb, pb, sb⟩, mb⟩ := hb
  refine ⟨⟨_, pw_or pa pb, fun σ H ε R E P Q r x p q => ?_⟩, fun E ε P P' h p => ma _ _ _ _ (fun b ε1 q => ?_) p⟩
  · refine sa σ H ε R E _ _ r x p fun d ε1 H1 R1 p1 r1 s1 => ?_
    cases d with
    | true => exact iteT (q true ε1 H1 R1 (by simpa using p1) r1 (stp_l s1))
    | false => exact iteF (sb σ H1 ε1 R1 E _ _ r1 x (by simpa using p1) fun d2 ε2 H2 R2 p2 r2 s2 => q d2 ε2 H2 R2 p2 r2 (s1.trans s2))
  · cases b with
    | true => exact iteT (h _ _ (by simpa using q))
    | false => exact iteF (mb _ _ _ _ h (by simpa using q))
theorem DW.dt (h : DW X c W Γ e u va) : DT X c W Γ e u va := by
  obtain ⟨⟨t, p, s⟩, m⟩ := h
  exact ⟨⟨t, p.pt, s⟩, m⟩
/-- .. as values -/
def wAnd (wa wb : DTE) : DTE := fun E ε P => wa E ε fun d ε1 => onS (truD d) fun b => if b = true then wb E ε1 P else P d ε1
def wOr (wa wb : DTE) : DTE := fun E ε P => wa E ε fun d ε1 => onS (truD d) fun b => if b = true then P d ε1 else wb E ε1 P
theorem val_on {σ : St} {Hs H1 H' : Hp} {ε' : DEnv} {R' : Hp} {d : D} {v : V} (h : Val X.K Γ σ H1 ε' R' H' d v k) (i : ∀ a, H1 a = none → Hs a = none) : Val X.K Γ σ Hs ε' R' H' d v k := by
  cases k with
  | pu => exact h
  | rd => exact h
  | fr =>
    refine ⟨h.1, fun ds e => ?_⟩
    obtain ⟨q, vs, e1, e2, e3, e4, e5, e6⟩ := h.2 ds e
    exact ⟨q, vs, e1, e2, e3, e4, i _ e5, e6⟩
theorem de_one {op} (ha : DE X c W Γ a k u w) : DE X c W Γ (.BoolOp op [a] pos) k u w := by
  obtain ⟨⟨ta, pa, sa⟩, ma⟩ := ha
  exact ⟨⟨_, pe_one pa, sa⟩, ma⟩
theorem de_and (ha : DE X c W Γ a k ua wa) (hb : DE X c W Γ (.BoolOp .And (b :: rest) pos) k ub wb) : DE X c W Γ (.BoolOp .And (a :: b :: rest) pos) k (ua || ub) (wAnd wa wb) := by
  obtain ⟨⟨ta, pa, sa⟩, ma⟩ := ha
  obtain ⟨⟨tb, pb, sb⟩, mb⟩ := hb
  refine ⟨⟨_, pe_andT pa pb, fun σ H ε R E P Q r x p q => ?_⟩, fun E ε P P' h p => ma _ _ _ _ (fun d ε1 q => onS_mono (fun b q => ?_) q) p⟩
  · refine sa σ H ε R E _ _ r x p fun d ε1 v H1 R1 p1 r1 s1 v1 => ?_
    obtain ⟨b, hb, p1⟩ := onS_inv p1
    refine ⟨b, v1.rdv.tru r1.sub hb, ?_⟩
    cases b with
    | true => exact iteT (sb σ H1 ε1 R1 E _ _ r1 x (by simpa using p1) fun d2 ε2 v2 H2 R2 p2 r2 s2 vv2 => q d2 ε2 v2 H2 R2 p2 r2 (s1.trans s2) (val_on vv2 s1.d))
    | false => exact iteF (q d ε1 v H1 R1 (by simpa using p1) r1 (stp_l s1) v1)
  · cases b with
    | true => exact iteT (mb _ _ _ _ h (by simpa using q))
    | false => exact iteF (h _ _ (by simpa using q))
theorem de_or (ha : DE X c W Γ a k ua wa) (hb : DE X c W Γ (.BoolOp .Or (b :: rest) pos) k ub wb) : DE X c W Γ (.BoolOp .Or (a :: b :: rest) pos) k (ua || ub) (wOr wa wb) := by
  obtain ⟨⟨ta, pa, sa⟩, ma⟩ := ha
  obtain ⟨⟨tb, pb, sb⟩, mb⟩ := hb
  refine ⟨⟨_, pe_orT pa pb, fun σ H ε R E P Q r x p q => ?_⟩, fun E ε P P' h p => ma _ _ _ _ (fun d ε1 q => onS_mono (fun b q => ?_) q) p⟩
  · refine sa σ H ε R E _ _ r x p fun d ε1 v H1 R1 p1 r1 s1 v1 => ?_
    obtain ⟨b, hb, p1⟩ := onS_inv p1
    refine ⟨b, v1.rdv.tru r1.sub hb, ?_⟩
    cases b with
    | true => exact iteT (q d ε1 v H1 R1 (by simpa using p1) r1 (stp_l s1) v1)
    | false => exact iteF (sb σ H1 ε1 R1 E _ _ r1 x (by simpa using p1) fun d2 ε2 v2 H2 R2 p2 r2 s2 vv2 => q d2 ε2 v2 H2 R2 p2 r2 (s1.trans s2) (val_on vv2 s1.d))
  · cases b with
    | true => exact iteT (h _ _ (by simpa using q))
    | false => exact iteF (mb _ _ _ _ h (by simpa using q))
def wNot (w : DTE) : DTE := fun E ε P => w E ε fun d ε1 => onS (truD d) fun b => P (.bl (!b)) ε1
theorem de_not (ha : DE X c W Γ a k u w) : DE X c W Γ (.UnaryOp .Not a pos) .fr u (wNot w) := by
  obtain ⟨⟨ta, pa, sa⟩, ma⟩ := ha
  refine ⟨⟨_, pe_notT pa, fun σ H ε R E P Q r x p q => ?_⟩, fun E ε P P' h p => ma _ _ _ _ (fun _ _ q => onS_mono (fun _ q => h _ _ q) q) p⟩
  refine sa σ H ε R E _ _ r x p fun d ε1 v H1 R1 p1 r1 s1 v1 => ?_
  obtain ⟨b, hb, p1⟩ := onS_inv p1
  exact ⟨b, v1.rdv.tru r1.sub hb, q _ ε1 _ H1 R1 p1 r1 s1 ⟨fun _ => at_bl, fun ds z => nomatch z⟩⟩
def wIfE (v : DTT) (wa wb : DTE) : DTE := fun E ε P => v E ε fun b ε1 => if b = true then wa E ε1 P else wb E ε1 P
theorem de_ifE (ht : DT X c W Γ e uc va) (ha : DE X c W Γ a k ua wa) (hb : DE X c W Γ b k ub wb) : DE X c W Γ (.IfExp e a b pos) k (uc || (ua || ub)) (wIfE va wa wb) := by
  obtain ⟨⟨tc, pc, sc⟩, mc⟩ := ht
  obtain ⟨⟨ta, pa, sa⟩, ma⟩ := ha
  obtain ⟨⟨tb, pb, sb⟩, mb⟩ := hb
  refine ⟨⟨_, pe_ifExp pc pa pb, fun σ H ε R E P Q r x p q => ?_⟩, fun E ε P P' h p => mc _ _ _ _ (fun b ε1 q => ?_) p⟩
  · refine sc σ H ε R E _ _ r x p fun b ε1 H1 R1 p1 r1 s1 => ?_
    cases b with
    | true => exact iteT (sa σ H1 ε1 R1 E _ _ r1 x (by simpa using p1) fun d2 ε2 v2 H2 R2 p2 r2 s2 vv2 => q d2 ε2 v2 H2 R2 p2 r2 (by
        have := stp_l (ub := ub) (s1.trans s2)
        rw [Bool.or_assoc] at this; exact this) (val_on vv2 s1.d))
    | false => exact iteF (sb σ H1 ε1 R1 E _ _ r1 x (by simpa using p1) fun d2 ε2 v2 H2 R2 p2 r2 s2 vv2 => q d2 ε2 v2 H2 R2 p2 r2 (by
        have := stp_l (ub := ua) (s1.trans s2)
        rw [Bool.or_assoc, Bool.or_comm ub ua] at this; exact this) (val_on vv2 s1.d))
  · cases b with
    | true => exact iteT (ma _ _ _ _ h (by simpa using q))
    | false => exact iteF (mb _ _ _ _ h (by simpa using q))
end
end DL
set_option Elab.async false
set_option linter.all false
set_option maxRecDepth 100000
set_option maxHeartbeats 1000000
/-! displays, calls of built-ins, calls of defs -/
namespace DL
open PySem PySem.Spec L2
open PyProof.Rows hiding St
section
variable {X : Cx} {c : Ctx} {W : WX} {Γ : List Md} {a b e e' : Expr} {es rest : List Expr} {k ka kb kc : Kd} {u ua ub uc : Bool} {w wa wb wc : DTE} {va vb : DTA} {pos pos' p p2 p3 p4 : Pos} {r r' : R2} {x y : Str}
/-! ### arguments -/
def wNil : DTA := fun _ ε P => P [] ε
def wCons (wa : DTE) (wr : DTA) : DTA := fun E ε P => wa E ε fun d ε1 => wr E ε1 fun ds ε2 => P (d :: ds) ε2
theorem da_nil : DA X c W Γ [] false wNil := ⟨⟨_, pa_nil, fun σ H ε R E P Q r _ p q => q [] ε [] H R p r Stp.refl AtL.nil⟩, fun _ _ _ _ h p => h _ _ p⟩
theorem da_cons (ha : DE X c W Γ a .pu ua wa) (hr : DA X c W Γ es ub vb) (hs : starEach (a :: es) X.env = (false, eval a X.env) :: starEach es X.env := by rfl) : DA X c W Γ (a :: es) (ua || ub) (wCons wa vb) := by
  obtain ⟨⟨ta, pa, sa⟩, ma⟩ := ha
  obtain ⟨⟨tb, pb, sb⟩, mb⟩ := hr
  refine ⟨⟨_, pa_cons pa pb hs, fun σ H ε R E P Q r x p q => ?_⟩, fun E ε P P' h p => ma _ _ _ _ (fun _ _ q => mb _ _ _ _ (fun _ _ q => h _ _ q) q) p⟩
  refine sa σ H ε R E _ _ r x p fun d ε1 v H1 R1 p1 r1 s1 v1 => ?_
  exact sb σ H1 ε1 R1 E _ _ r1 x p1 fun ds ε2 vs H2 R2 p2 r2 s2 l2 => q _ ε2 _ H2 R2 p2 r2 (s1.trans s2) (AtL.cons (At.mono s2.r d v v1) l2)
/-! ### displays -/
def wTup (v : DTA) : DTE := fun E ε P => v E ε fun ds ε1 => ds.length ≤ sizeLine ∧ P (.tup ds) ε1
def wLst (v : DTA) : DTE := fun E ε P => v E ε fun ds ε1 => ds.length ≤ sizeLine ∧ P (.lst ds) ε1
theorem de_tup {j : Nat} (h : DA X c W Γ es u va) : DE X c W Γ (.Tuple es j pos) .fr u (wTup va) := by
  obtain ⟨⟨t, pa, s⟩, m⟩ := h
  refine ⟨⟨_, pe_tup pa, fun σ H ε R E P Q r x p q => ?_⟩, fun E ε P P' h p => m _ _ _ _ (fun _ _ q => ⟨q.1, h _ _ q.2⟩) p⟩
  refine s σ H ε R E _ _ r x p fun ds ε1 vs H1 R1 p1 r1 s1 l1 => ⟨by rw [← l1.len]; exact p1.1, fun b hb => ?_⟩
  have g : Gw R1 H1 (upd R1 b (.tup vs)) (upd H1 b (.tup vs)) := Gw.new r1.sub hb
  have s3 := s1.trans (g.stp (Γ := Γ) (σ := σ) (ε := ε1))
  rw [Bool.or_false] at s3
  exact q _ ε1 _ _ _ p1.2 (g.rel r1) s3 ((ValN.nl (at_new r1.sub hb l1) rfl : ValN X.K H1 _ _ _ _ .fr).val r1 s1)
theorem de_lst (h : DA X c W Γ es u va) : DE X c W Γ (.List es pos) .fr u (wLst va) := by
  obtain ⟨⟨t, pa, s⟩, m⟩ := h
  refine ⟨⟨_, pe_lst pa, fun σ H ε R E P Q r x p q => ?_⟩, fun E ε P P' h p => m _ _ _ _ (fun _ _ q => ⟨q.1, h _ _ q.2⟩) p⟩
  refine s σ H ε R E _ _ r x p fun ds ε1 vs H1 R1 p1 r1 s1 l1 => ⟨by rw [← l1.len]; exact p1.1, fun b hb => ?_⟩
  have g : Gw R1 H1 R1 (upd H1 b (.lst vs)) := Gw.own r1.sub hb
  have s3 := s1.trans (g.stp (Γ := Γ) (σ := σ) (ε := ε1))
  rw [Bool.or_false] at s3
  exact q _ ε1 _ _ _ p1.2 (g.rel r1) s3 ((ValN.lst r1.sub hb l1 : ValN X.K H1 _ _ _ _ .fr).val r1 s1)
/-! ### calls of built-ins with one value, with two -/
theorem de_b1 {id : String} {r : List V → Hp → VK → Prop} {o : DUn} (hc : CallR X (.builtin id) r) (ho : UnD X.K k (fun x H Q => r [x] H Q) o) (hm : UMono o) (hg : Gl X x) (hmg : X.mg x = none) (hv : bootBuiltins x = some (.builtin id)) (ha : DE X c W Γ a ka ua wa)
    (hn : x ≠ "__name__" := by decide) (hdb : (x == ("__debug__" : Str)) = false := by decide) (he : starEach [a] X.env = (false, eval a X.env) :: starEach [] X.env := by rfl) : DE X c W Γ (.Call (.Name x p) [a] [] pos) k ua (wUn o wa) :=
  de_tUn ho hm ha fun _ pa => pe_callB hc hg hmg hv (pa_cons pa pa_nil he) hn hdb he rfl
theorem de_t1 {id : String} {r : List V → Hp → VK → Prop} {o : DUn} (hc : CallR X (.type id) r) (ho : UnD X.K k (fun x H Q => r [x] H Q) o) (hm : UMono o) (hg : Gl X x) (hmg : X.mg x = none) (hv : bootBuiltins x = some (.type id)) (ha : DE X c W Γ a ka ua wa)
    (hn : x ≠ "__name__" := by decide) (hdb : (x == ("__debug__" : Str)) = false := by decide) (he : starEach [a] X.env = (false, eval a X.env) :: starEach [] X.env := by rfl) : DE X c W Γ (.Call (.Name x p) [a] [] pos) k ua (wUn o wa) :=
  de_tUn ho hm ha fun _ pa => pe_callTy hc hg hmg hv (pa_cons pa pa_nil he) hn hdb he rfl
theorem de_b2 {id : String} {r : List V → Hp → VK → Prop} {o : DOp} (hc : CallR X (.builtin id) r) (ho : OpD X.K k (fun x y H Q => r [x, y] H Q) o) (hm : OMono o) (hg : Gl X x) (hmg : X.mg x = none) (hv : bootBuiltins x = some (.builtin id)) (ha : DE X c W Γ a ka ua wa) (hb : DE X c W Γ b kb ub wb)
    (hk : ka = .rd → ub = false := by decide) (hn : x ≠ "__name__" := by decide) (hdb : (x == ("__debug__" : Str)) = false := by decide) (he : starEach [a, b] X.env = (false, eval a X.env) :: starEach [b] X.env := by rfl) (he2 : starEach [b] X.env = (false, eval b X.env) :: starEach [] X.env := by rfl)
    (hpl : (backTo pos (starEach [b] X.env)).any (·.1) = false := by rfl) : DE X c W Γ (.Call (.Name x p) [a, b] [] pos) k (ua || ub) (wOp o wa wb) :=
  de_tOp ho hm ha hb hk fun _ _ pa pb => pe_callB hc hg hmg hv (pa_cons pa (pa_cons pb pa_nil he2) he) hn hdb he hpl
/-! len, abs, int, str, list, tuple -/
def oLen : DUn
  | .lst ds, P => P (.int ds.length)
  | .tup ds, P => P (.int ds.length)
  | .frz ds, P => P (.int ds.length)
  | .str z, P => z.length ≤ sizeLine ∧ P (.int z.length)
  | _, _ => False
theorem oLen_mono : UMono oLen := fun d P P' h p => by
  unfold oLen at p ⊢
  split at p
  · exact h _ p
  · exact h _ p
  · exact h _ p
  · exact ⟨p.1, h _ p.2⟩
  · exact p.elim
theorem unD_len {K : PySem.W.Frag} : UnD K .fr (fun x H Q => ∃ x' n, [x] = [x'] ∧ LenV K x' H n ∧ Q (.int n) H) oLen := fun R H x d P Q s hx ho q => by
  unfold oLen at ho
  split at ho
  · obtain ⟨a, vs, e1, h1, l1⟩ := hx.lst s
    subst e1
    exact ⟨_, _, rfl, .inl ⟨vs, .inl (.inl h1), l1.len⟩, q _ _ R H ho (Gw.refl s) (.nl at_int rfl)⟩
  · obtain ⟨a, vs, e1, h1, l1⟩ := hx.tup s
    subst e1
    exact ⟨_, _, rfl, .inr ⟨vs, h1, l1.len⟩, q _ _ R H ho (Gw.refl s) (.nl at_int rfl)⟩
  · obtain ⟨a, vs, e1, h1, l1⟩ := hx.frz s
    subst e1
    exact ⟨_, _, rfl, .inl ⟨vs, h1, l1.len⟩, q _ _ R H ho (Gw.refl s) (.nl at_int rfl)⟩
  · have := hx.str
    subst this
    exact ⟨_, _, rfl, ⟨ho.1, rfl⟩, q _ _ R H ho.2 (Gw.refl s) (.nl at_int rfl)⟩
  · exact ho.elim
theorem de_len (hmg : X.mg "len" = none) (ha : DE X c W Γ a ka ua wa) (hg : Gl X "len" := by rfl) (he : starEach [a] X.env = (false, eval a X.env) :: starEach [] X.env := by rfl) : DE X c W Γ (.Call (.Name "len" p) [a] [] pos) .fr ua (wUn oLen wa) :=
  de_b1 call_len unD_len oLen_mono hg hmg boot_len ha (he := he)
def oI1 (g : Int → D) : DUn
  | .int i, P => P (g i)
  | _, _ => False
theorem oI1_mono {g : Int → D} : UMono (oI1 g) := fun d P P' h p => by
  unfold oI1 at p ⊢
  split at p
  · exact h _ p
  · exact p.elim
abbrev oAbs : DUn := oI1 fun i => .int (if i < 0 then -i else i)
theorem de_abs (hmg : X.mg "abs" = none) (ha : DE X c W Γ a ka ua wa) (hg : Gl X "abs" := by rfl) (he : starEach [a] X.env = (false, eval a X.env) :: starEach [] X.env := by rfl) : DE X c W Γ (.Call (.Name "abs" p) [a] [] pos) .fr ua (wUn oAbs wa) :=
  de_b1 call_abs (fun R H x d P Q s hx ho q => by
    unfold oAbs oI1 at ho
    split at ho
    · exact ⟨_, by rw [hx.int], q _ _ R H ho (Gw.refl s) (.nl at_int rfl)⟩
    · exact ho.elim) oI1_mono hg hmg (by decide +kernel) ha (he := he)
def oInt : DUn
  | .int i, P => P (.int i)
  | .bl b, P => P (.int (if b then 1 else 0))
  | _, _ => False
theorem oInt_mono : UMono oInt := fun d P P' h p => by
  unfold oInt at p ⊢
  split at p
  · exact h _ p
  · exact h _ p
  · exact p.elim
theorem de_intc (hmg : X.mg "int" = none) (ha : DE X c W Γ a ka ua wa) (hg : Gl X "int" := by rfl) (he : starEach [a] X.env = (false, eval a X.env) :: starEach [] X.env := by rfl) : DE X c W Γ (.Call (.Name "int" p) [a] [] pos) .fr ua (wUn oInt wa) :=
  de_t1 call_int1 (fun R H x d P Q s hx ho q => by
    unfold oInt at ho
    split at ho
    · exact .inl ⟨_, by rw [hx.int], q _ _ R H ho (Gw.refl s) (.nl at_int rfl)⟩
    · exact .inr ⟨_, by rw [hx.bl], q _ _ R H ho (Gw.refl s) (.nl at_int rfl)⟩
    · exact ho.elim) oInt_mono hg hmg (by decide +kernel) ha (he := he)
def oStr : DUn
  | .int i, P => i.natAbs.log2 < 1920 ∧ P (.str (toString i))
  | _, _ => False
theorem oStr_mono : UMono oStr := fun d P P' h p => by
  unfold oStr at p ⊢
  split at p
  · exact ⟨p.1, h _ p.2⟩
  · exact p.elim
theorem de_strc (hmg : X.mg "str" = none) (ha : DE X c W Γ a ka ua wa) (hg : Gl X "str" := by rfl) (he : starEach [a] X.env = (false, eval a X.env) :: starEach [] X.env := by rfl) : DE X c W Γ (.Call (.Name "str" p) [a] [] pos) .fr ua (wUn oStr wa) :=
  de_t1 call_str_int (fun R H x d P Q s hx ho q => by
    unfold oStr at ho
    split at ho
    · exact ⟨_, by rw [hx.int], ho.1, q _ _ R H ho.2 (Gw.refl s) (.nl at_str rfl)⟩
    · exact ho.elim) oStr_mono hg hmg (by decide +kernel) ha (he := he)
def oList : DUn
  | .lst ds, P => P (.lst ds)
  | .tup ds, P => P (.lst ds)
  | _, _ => False
theorem oList_mono : UMono oList := fun d P P' h p => by
  unfold oList at p ⊢
  split at p
  · exact h _ p
  · exact h _ p
  · exact p.elim
theorem de_list (hmg : X.mg "list" = none) (ha : DE X c W Γ a ka ua wa) (hg : Gl X "list" := by rfl) (he : starEach [a] X.env = (false, eval a X.env) :: starEach [] X.env := by rfl) : DE X c W Γ (.Call (.Name "list" p) [a] [] pos) .fr ua (wUn oList wa) :=
  de_t1 call_list_of (fun R H x d P Q s hx ho q => by
    unfold oList at ho
    split at ho
    · obtain ⟨a, vs, e1, h1, l1⟩ := hx.lst s
      exact ⟨a, vs, by rw [e1], .inl (.inl (.inl h1)), fun l hl => q _ _ _ _ ho (Gw.own s hl) (.lst s hl l1)⟩
    · obtain ⟨a, vs, e1, h1, l1⟩ := hx.tup s
      exact ⟨a, vs, by rw [e1], .inr h1, fun l hl => q _ _ _ _ ho (Gw.own s hl) (.lst s hl l1)⟩
    · exact ho.elim) oList_mono hg hmg (by decide +kernel) ha (he := he)
def oTuple : DUn
  | .lst ds, P => P (.tup ds)
  | .tup ds, P => P (.tup ds)
  | _, _ => False
theorem oTuple_mono : UMono oTuple := fun d P P' h p => by
  unfold oTuple at p ⊢
  split at p
  · exact h _ p
  · exact h _ p
  · exact p.elim
theorem de_tuple (hmg : X.mg "tuple" = none) (ha : DE X c W Γ a ka ua wa) (hg : Gl X "tuple" := by rfl) (he : starEach [a] X.env = (false, eval a X.env) :: starEach [] X.env := by rfl) : DE X c W Γ (.Call (.Name "tuple" p) [a] [] pos) .fr ua (wUn oTuple wa) :=
  de_t1 call_tuple_of (fun R H x d P Q s hx ho q => by
    unfold oTuple at ho
    split at ho
    · obtain ⟨a, vs, e1, h1, l1⟩ := hx.lst s
      exact ⟨a, vs, by rw [e1], .inl ⟨.inl (.inl h1), fun l hl => q _ _ _ _ ho (Gw.new s hl) (.nl (at_new s hl l1) rfl)⟩⟩
    · obtain ⟨a, vs, e1, h1, l1⟩ := hx.tup s
      refine ⟨a, vs, by rw [e1], .inr ⟨h1, q _ _ R H ho (Gw.refl s) (.nl ?_ rfl)⟩⟩
      rw [← e1]
      rcases hx with hx | ⟨_, _, _, z, _⟩
      · exact hx
      · cases z
    · exact ho.elim) oTuple_mono hg hmg (by decide +kernel) ha (he := he)
/-! all, any, sum, max, min of a list -/
def asBs : List D → Option (List Bool)
  | [] => some []
  | .bl b :: r => (asBs r).map (b :: ·)
  | _ => none
theorem asBs_inv : ∀ {ds : List D} {bs : List Bool}, asBs ds = some bs → ds = bs.map D.bl
  | [], bs, h => by injection h with h; subst h; rfl
  | .bl b :: r, bs, h => by
    have h' : (asBs r).map (b :: ·) = some bs := h
    cases e : asBs r with
    | none => rw [e] at h'; cases h'
    | some cs =>
      rw [e] at h'
      injection h' with h'
      subst h'
      rw [asBs_inv e]; rfl
  | .non :: _, _, h => by cases h
  | .int _ :: _, _, h => by cases h
  | .str _ :: _, _, h => by cases h
  | .tup _ :: _, _, h => by cases h
  | .lst _ :: _, _, h => by cases h
  | .frz _ :: _, _, h => by cases h
  | .ins _ _ _ _ :: _, _, h => by cases h
  | .dic _ _ :: _, _, h => by cases h
  | .ref _ :: _, _, h => by cases h
theorem asBs_map : ∀ bs : List Bool, asBs (bs.map D.bl) = some bs
  | [] => rfl
  | b :: r => by
    show (asBs (r.map D.bl)).map (b :: ·) = _
    rw [asBs_map r]; rfl
def asIs : List D → Option (List Int)
  | [] => some []
  | .int b :: r => (asIs r).map (b :: ·)
  | _ => none
theorem asIs_inv : ∀ {ds : List D} {bs : List Int}, asIs ds = some bs → ds = bs.map D.int
  | [], bs, h => by injection h with h; subst h; rfl
  | .int b :: r, bs, h => by
    have h' : (asIs r).map (b :: ·) = some bs := h
    cases e : asIs r with
    | none => rw [e] at h'; cases h'
    | some cs =>
      rw [e] at h'
      injection h' with h'
      subst h'
      rw [asIs_inv e]; rfl
  | .non :: _, _, h => by cases h
  | .bl _ :: _, _, h => by cases h
  | .str _ :: _, _, h => by cases h
  | .tup _ :: _, _, h => by cases h
  | .lst _ :: _, _, h => by cases h
  | .frz _ :: _, _, h => by cases h
  | .ins _ _ _ _ :: _, _, h => by cases h
  | .dic _ _ :: _, _, h => by cases h
  | .ref _ :: _, _, h => by cases h
theorem asIs_map : ∀ bs : List Int, asIs (bs.map D.int) = some bs
  | [] => rfl
  | b :: r => by
    show (asIs (r.map D.int)).map (b :: ·) = _
    rw [asIs_map r]; rfl
def oBs (g : List Bool → D) : DUn
  | .lst ds, P => onS (asBs ds) fun bs => P (g bs)
  | _, _ => False
theorem oBs_mono {g : List Bool → D} : UMono (oBs g) := fun d P P' h p => by
  unfold oBs at p ⊢
  split at p
  · exact onS_mono (fun _ q => h _ q) p
  · exact p.elim
theorem de_all (hc : X.calm = true) (hmg : X.mg "all" = none) (ha : DE X c W Γ a ka ua wa) (hg : Gl X "all" := by rfl) (he : starEach [a] X.env = (false, eval a X.env) :: starEach [] X.env := by rfl) : DE X c W Γ (.Call (.Name "all" p) [a] [] pos) .fr ua (wUn (oBs fun bs => .bl (bs.all id)) wa) :=
  de_b1 (cr_all hc) (fun R H x d P Q s hx ho q => by
    unfold oBs at ho
    split at ho
    · obtain ⟨bs, hb, h2⟩ := onS_inv ho
      have := asBs_inv hb
      subst this
      obtain ⟨a, vs, e1, h1, l1⟩ := hx.lst s
      have := l1.bls
      subst this
      exact ⟨a, bs, by rw [e1], .inl (.inl h1), q _ _ R H h2 (Gw.refl s) (.nl at_bl rfl)⟩
    · exact ho.elim) oBs_mono hg hmg (by decide +kernel) ha (he := he)
def oIs (C : List Int → Prop) (g : List Int → (D → Prop) → Prop) : DUn
  | .lst ds, P => onS (asIs ds) fun ns => C ns ∧ g ns P
  | _, _ => False
theorem de_sum (hc : X.calm = true) (hmg : X.mg "sum" = none) (ha : DE X c W Γ a ka ua wa) (hg : Gl X "sum" := by rfl) (he : starEach [a] X.env = (false, eval a X.env) :: starEach [] X.env := by rfl) : DE X c W Γ (.Call (.Name "sum" p) [a] [] pos) .fr ua (wUn (oIs (fun _ => True) fun ns P => P (.int ns.sum)) wa) :=
  de_b1 (cr_sum hc) (fun R H x d P Q s hx ho q => by
    unfold oIs at ho
    split at ho
    · obtain ⟨bs, hb, h2⟩ := onS_inv ho
      have := asIs_inv hb
      subst this
      obtain ⟨a, vs, e1, h1, l1⟩ := hx.lst s
      have := l1.ints
      subst this
      exact ⟨a, bs, by rw [e1], .inl (.inl h1), q _ _ R H h2.2 (Gw.refl s) (.nl at_int rfl)⟩
    · exact ho.elim) (fun d P P' h p => by
    unfold oIs at p ⊢
    split at p
    · exact onS_mono (fun _ q => ⟨q.1, h _ q.2⟩) p
    · exact p.elim) hg hmg (by decide +kernel) ha (he := he)
theorem de_maxL (hc : X.calm = true) (hmg : X.mg "max" = none) (ha : DE X c W Γ a ka ua wa) (hg : Gl X "max" := by rfl) (he : starEach [a] X.env = (false, eval a X.env) :: starEach [] X.env := by rfl) :
    DE X c W Γ (.Call (.Name "max" p) [a] [] pos) .fr ua (wUn (oIs (fun ns => 0 < ns.length) fun ns P => ∀ m, m ∈ ns → (∀ y, y ∈ ns → y ≤ m) → P (.int m)) wa) :=
  de_b1 (cr_max hc) (fun R H x d P Q s hx ho q => by
    unfold oIs at ho
    split at ho
    · obtain ⟨bs, hb, h2⟩ := onS_inv ho
      have := asIs_inv hb
      subst this
      obtain ⟨a, vs, e1, h1, l1⟩ := hx.lst s
      have := l1.ints
      subst this
      exact ⟨a, bs, by rw [e1], .inl (.inl h1), h2.1, fun m h1 h3 => q _ _ R H (h2.2 m h1 h3) (Gw.refl s) (.nl at_int rfl)⟩
    · exact ho.elim) (fun d P P' h p => by
    unfold oIs at p ⊢
    split at p
    · exact onS_mono (fun _ q => ⟨q.1, fun m h1 h2 => h _ (q.2 m h1 h2)⟩) p
    · exact p.elim) hg hmg (by decide +kernel) ha (he := he)
theorem de_minL (hc : X.calm = true) (hmg : X.mg "min" = none) (ha : DE X c W Γ a ka ua wa) (hg : Gl X "min" := by rfl) (he : starEach [a] X.env = (false, eval a X.env) :: starEach [] X.env := by rfl) :
    DE X c W Γ (.Call (.Name "min" p) [a] [] pos) .fr ua (wUn (oIs (fun ns => 0 < ns.length) fun ns P => ∀ m, m ∈ ns → (∀ y, y ∈ ns → m ≤ y) → P (.int m)) wa) :=
  de_b1 (cr_min hc) (fun R H x d P Q s hx ho q => by
    unfold oIs at ho
    split at ho
    · obtain ⟨bs, hb, h2⟩ := onS_inv ho
      have := asIs_inv hb
      subst this
      obtain ⟨a, vs, e1, h1, l1⟩ := hx.lst s
      have := l1.ints
      subst this
      exact ⟨a, bs, by rw [e1], .inl (.inl h1), h2.1, fun m h1 h3 => q _ _ R H (h2.2 m h1 h3) (Gw.refl s) (.nl at_int rfl)⟩
    · exact ho.elim) (fun d P P' h p => by
    unfold oIs at p ⊢
    split at p
    · exact onS_mono (fun _ q => ⟨q.1, fun m h1 h2 => h _ (q.2 m h1 h2)⟩) p
    · exact p.elim) hg hmg (by decide +kernel) ha (he := he)
abbrev oMax2 : DOp := oII0 fun i j => .int (if j > i then j else i)
abbrev oMin2 : DOp := oII0 fun i j => .int (if j < i then j else i)
theorem opD_two {K : PySem.W.Frag} {g : Int → Int → Int} : OpD K .fr (fun x y H Q => ∃ i j, [x, y] = [V.int i, V.int j] ∧ Q (.int (g i j)) H) (oII0 fun i j => .int (g i j)) := fun R H x y d e P Q s hx hy ho q => by
  unfold oII0 at ho
  split at ho
  · exact ⟨_, _, by rw [hx.int, hy.int], q _ _ R H ho (Gw.refl s) (.nl at_int rfl)⟩
  · exact ho.elim
theorem de_max2 (hc : X.calm = true) (hmg : X.mg "max" = none) (ha : DE X c W Γ a ka ua wa) (hb : DE X c W Γ b kb ub wb) (hg : Gl X "max" := by rfl) (hk : ka = .rd → ub = false := by decide) (he : starEach [a, b] X.env = (false, eval a X.env) :: starEach [b] X.env := by rfl) (he2 : starEach [b] X.env = (false, eval b X.env) :: starEach [] X.env := by rfl)
    (hpl : (backTo pos (starEach [b] X.env)).any (·.1) = false := by rfl) : DE X c W Γ (.Call (.Name "max" p) [a, b] [] pos) .fr (ua || ub) (wOp oMax2 wa wb) :=
  de_b2 (call_max2 hc) opD_two oII0_mono hg hmg (by decide +kernel) ha hb hk (he := he) (he2 := he2) (hpl := hpl)
theorem de_min2 (hc : X.calm = true) (hmg : X.mg "min" = none) (ha : DE X c W Γ a ka ua wa) (hb : DE X c W Γ b kb ub wb) (hg : Gl X "min" := by rfl) (hk : ka = .rd → ub = false := by decide) (he : starEach [a, b] X.env = (false, eval a X.env) :: starEach [b] X.env := by rfl) (he2 : starEach [b] X.env = (false, eval b X.env) :: starEach [] X.env := by rfl)
    (hpl : (backTo pos (starEach [b] X.env)).any (·.1) = false := by rfl) : DE X c W Γ (.Call (.Name "min" p) [a, b] [] pos) .fr (ua || ub) (wOp oMin2 wa wb) :=
  de_b2 (call_min2 hc) opD_two oII0_mono hg hmg (by decide +kernel) ha hb hk (he := he) (he2 := he2) (hpl := hpl)
abbrev oDivmod : DOp := oII CDiv fun i j => .tup [.int (i / j), .int (i % j)]
theorem de_divmod (hmg : X.mg "divmod" = none) (ha : DE X c W Γ a ka ua wa) (hb : DE X c W Γ b kb ub wb) (hg : Gl X "divmod" := by rfl) (hk : ka = .rd → ub = false := by decide) (he : starEach [a, b] X.env = (false, eval a X.env) :: starEach [b] X.env := by rfl) (he2 : starEach [b] X.env = (false, eval b X.env) :: starEach [] X.env := by rfl)
    (hpl : (backTo pos (starEach [b] X.env)).any (·.1) = false := by rfl) : DE X c W Γ (.Call (.Name "divmod" p) [a, b] [] pos) .fr (ua || ub) (wOp oDivmod wa wb) :=
  de_b2 call_divmod (fun R H x y d e P Q s hx hy ho q => by
    unfold oDivmod oII at ho
    split at ho
    · exact ⟨_, _, by rw [hx.int, hy.int], ho.1, fun b hb => q _ _ _ _ ho.2 (Gw.new s hb) (.nl (at_new s hb (AtL.cons at_int (AtL.cons at_int AtL.nil))) rfl)⟩
    · exact ho.elim) oII_mono hg hmg (by decide +kernel) ha hb hk (he := he) (he2 := he2) (hpl := hpl)
end
end DL
set_option Elab.async false
set_option linter.all false
set_option maxRecDepth 100000
set_option maxHeartbeats 1000000
/-! isinstance, promises of defs, calls of defs -/
namespace DL
open PySem PySem.Spec L2
open PyProof.Rows hiding St
/-! ### isinstance with a built-in type -/
def tyD : D → Option String
  | .non => some "NoneType"
  | .bl _ => some "bool"
  | .int _ => some "int"
  | .str _ => some "str"
  | .tup _ => some "tuple"
  | .lst _ => some "list"
  | .frz _ => some "list"
  | .dic _ _ => some "dict"
  | .ins _ _ _ _ => none
  | .ref _ => none
/-- t is T or below it -/
def isiT (T t : String) : Bool := t == T || (T == "int" && t == "bool")
def tyKnown (T : String) : Bool := ["int", "bool", "str", "list", "tuple", "dict"].contains T
theorem Rdv.ty {K : PySem.W.Frag} {R H : Hp} {d : D} {v : V} {t : String} (s : Same R H) (h : Rdv K R H d v) (e : tyD d = some t) : TyX K H v (.type t) := by
  cases d with
  | non => rw [h.non]; injection e with e; subst e; exact .base .non
  | bl i => rw [h.bl]; injection e with e; subst e; exact .base (.bl i)
  | int i => rw [h.int]; injection e with e; subst e; exact .base (.int i)
  | str i => rw [h.str]; injection e with e; subst e; exact .base (.str i)
  | tup ds =>
    obtain ⟨a, vs, e1, h1, l1⟩ := h.tup s
    subst e1
    injection e with e; subst e
    rcases h1 with (h1 | ⟨o, h1⟩) | ⟨o, _, _, h1, h2, _⟩
    · exact .base (.tup h1)
    · exact .fTuple h1
    · exact .kTuple h1 h2
  | lst ds =>
    obtain ⟨a, vs, e1, h1, l1⟩ := h.lst s
    subst e1
    injection e with e; subst e
    exact .base (.lst h1)
  | frz ds =>
    obtain ⟨a, vs, e1, h1, l1⟩ := h.frz s
    subst e1
    injection e with e; subst e
    rcases h1 with (h1 | ⟨o, h1⟩) | ⟨o, _, _, h1, h2, _⟩
    · exact .base (.lst h1)
    · exact .base (.frz h1)
    · exact .kList h1 h2
  | dic ks ds =>
    rcases h with h | ⟨_, _, _, z, _⟩
    · unfold At at h
      obtain ⟨a, vs, e1, h1, h2, l1⟩ := h
      subst e1
      injection e with e; subst e
      exact .base (.dK (s _ _ h1))
    · cases z
  | ins _ _ _ _ => cases e
  | ref _ => cases e
theorem kit_known : ∀ T ∈ ["int", "bool", "str", "list", "tuple", "dict"], ∀ t ∈ ["NoneType", "bool", "int", "str", "tuple", "list", "dict"], kitB t T = some (isiT T t) := by decide +kernel
theorem tyD_mem {d : D} {t : String} (e : tyD d = some t) : t ∈ ["NoneType", "bool", "int", "str", "tuple", "list", "dict"] := by
  cases d <;> first
    | (injection e with e; subst e; decide)
    | cases e
theorem kit_at {K : PySem.W.Frag} {d : D} {t T : String} (hT : tyKnown T = true) (e : tyD d = some t) : PySem.W.kitOne K (.type t) (.type T) = some (isiT T t) :=
  kit_ty (kit_known T (by unfold tyKnown at hT; exact List.contains_iff_mem.mp hT) t (tyD_mem e))
def oIsi (T : String) : DUn := fun d P => onS (tyD d) fun t => P (.bl (isiT T t))
theorem oIsi_mono {T : String} : UMono (oIsi T) := fun d P P' h p => onS_mono (fun _ q => h _ q) p
def oIsi2 (T S : String) : DUn := fun d P => onS (tyD d) fun t => P (.bl (isiT T t || isiT S t))
theorem oIsi2_mono {T S : String} : UMono (oIsi2 T S) := fun d P P' h p => onS_mono (fun _ q => h _ q) p
section
variable {X : Cx} {c : Ctx} {W : WX} {Γ : List Md} {a b e e' : Expr} {es rest : List Expr} {k ka kb kc : Kd} {u ua ub uc : Bool} {w wa wb wc : DTE} {va vb : DTA} {pos pos' p p2 p3 p4 : Pos} {r r' : R2} {x y T S : Str} {τ κ : String}
theorem de_isi (hmg : X.mg "isinstance" = none) (hT : tyKnown τ = true) (hgT : Gl X T) (hmT : X.mg T = none) (hvT : bootBuiltins T = some (.type τ)) (ha : DE X c W Γ a ka ua wa) (hnT : T ≠ "__name__" := by decide) (hdT : (T == ("__debug__" : Str)) = false := by decide) (hg : Gl X "isinstance" := by rfl)
    (he : starEach [a, .Name T p2] X.env = (false, eval a X.env) :: starEach [.Name T p2] X.env := by rfl) (he2 : starEach [.Name T p2] X.env = (false, eval (.Name T p2) X.env) :: starEach [] X.env := by rfl)
    (hpl : (backTo pos (starEach [.Name T p2] X.env)).any (·.1) = false := by rfl) : DE X c W Γ (.Call (.Name "isinstance" p) [a, .Name T p2] [] pos) .fr ua (wUn (oIsi τ) wa) :=
  de_tUn (r := fun x H Q => rIsi X.K [x, .ty τ] H Q) (fun R H x d P Q s hx ho q => by
    obtain ⟨t, ht, ho⟩ := onS_inv ho
    exact ⟨x, .ty τ, .type t, .type τ, _, rfl, .ty τ, hx.ty s ht, kit_at hT ht, q _ _ R H ho (Gw.refl s) (.nl at_bl rfl)⟩) oIsi_mono ha
    fun _ pa => pe_callB call_isi hg hmg (by decide +kernel) (pa_cons pa (pa_cons (pe_bltn (v := .ty τ) hgT hmT hvT rfl hnT hdT) pa_nil he2) he) (by decide) (by decide) he hpl
theorem de_isi2 (hmg : X.mg "isinstance" = none) (hT : tyKnown τ = true) (hgT : Gl X T) (hmT : X.mg T = none) (hvT : bootBuiltins T = some (.type τ)) (hS : tyKnown κ = true) (hgS : Gl X S) (hmS : X.mg S = none) (hvS : bootBuiltins S = some (.type κ)) (ha : DE X c W Γ a ka ua wa) {j : Nat}
    (hnT : T ≠ "__name__" := by decide) (hdT : (T == ("__debug__" : Str)) = false := by decide) (hnS : S ≠ "__name__" := by decide) (hdS : (S == ("__debug__" : Str)) = false := by decide) (hg : Gl X "isinstance" := by rfl)
    (he : starEach [a, .Tuple [.Name T p2, .Name S p3] j p4] X.env = (false, eval a X.env) :: starEach [.Tuple [.Name T p2, .Name S p3] j p4] X.env := by rfl) (he2 : starEach [.Tuple [.Name T p2, .Name S p3] j p4] X.env = (false, eval (.Tuple [.Name T p2, .Name S p3] j p4) X.env) :: starEach [] X.env := by rfl)
    (he3 : starEach [.Name T p2, .Name S p3] X.env = (false, eval (.Name T p2) X.env) :: starEach [.Name S p3] X.env := by rfl) (he4 : starEach [.Name S p3] X.env = (false, eval (.Name S p3) X.env) :: starEach [] X.env := by rfl)
    (hpl : (backTo pos (starEach [.Tuple [.Name T p2, .Name S p3] j p4] X.env)).any (·.1) = false := by rfl) : DE X c W Γ (.Call (.Name "isinstance" p) [a, .Tuple [.Name T p2, .Name S p3] j p4] [] pos) .fr ua (wUn (oIsi2 τ κ) wa) := by
  refine de_tUn (r := fun x H Q => [V.ty τ, V.ty κ].length ≤ sizeLine ∧ ∀ b, H b = none → rIsiT X.K [x, .ref b] (upd H b (.tup [.ty τ, .ty κ])) Q) (fun R H x d P Q s hx ho q => ⟨by rw [sizeLine_eq]; show 2 ≤ 16777216; decide, fun b hb => ?_⟩) oIsi2_mono ha
    fun ta pa => pe_callB call_isiT hg hmg (by decide +kernel) (pa_cons pa (pa_cons (pe_tup (x1 := j) (pos := p4) (pa_cons (pe_bltn (v := .ty τ) hgT hmT hvT rfl hnT hdT) (pa_cons (pe_bltn (v := .ty κ) hgS hmS hvS rfl hnS hdS) pa_nil he4) he3)) pa_nil he2) he) (p := p) (pos := pos) (by decide) (by decide) he hpl
  obtain ⟨t, ht, ho⟩ := onS_inv ho
  have ty : TyX X.K (upd H b (.tup [.ty τ, .ty κ])) x (.type t) := by
    have hx' : Rdv X.K R (upd H b (.tup [.ty τ, .ty κ])) d x := by
      rcases hx with hx | ⟨ds, p, vs, e1, e2, e3, e4⟩
      · exact .inl hx
      · exact .inr ⟨ds, p, vs, e1, e2, same_upd hb _ _ e3, e4⟩
    exact hx'.ty (s.trans (same_upd hb)) ht
  refine ⟨x, b, [.ty τ, .ty κ], .type t, [.type τ, .type κ], _, rfl, upd_same, .cons (.ty τ) (.cons (.ty κ) .nil), ty, ?_, q _ _ R _ ho (Gw.own s hb) (.nl at_bl rfl)⟩
  unfold PySem.W.kitAny
  rw [kit_at hT ht]
  cases isiT τ t with
  | true => rfl
  | false =>
    show PySem.W.kitAny X.K (.type t) [.type κ] = _
    unfold PySem.W.kitAny
    rw [kit_at hS ht]
    cases isiT κ t <;> rfl
/-! ### promises -/
/-- a def over data: the arguments (what it may change ahead), what is let out, what comes back (and what the changed list holds then) -/
abbrev DFn := List D → (Addr → List Str → List D → D → Prop) → (D → D → Prop) → Prop
def FMono (φ : DFn) : Prop := ∀ ds E P P', (∀ r c', P r c' → P' r c') → φ ds E P → φ ds E P'
def ArgsOK (K : PySem.W.Frag) (io : Bool) (c : Ctx) (ds : List D) (vs : List V) : Prop := match io with
  | false => c.io = none ∧ AtL K c.R0 ds vs
  | true => ∃ p us cs cv es, c.io = some p ∧ vs = .ref p :: us ∧ ds = .lst cs :: es ∧ c.H0 p = some (.lst cv) ∧ c.R0 p = none ∧ AtL K c.R0 cs cv ∧ AtL K c.R0 es us
structure Out (K : PySem.W.Frag) (c : Ctx) (H' R' : Hp) (c' : D) : Prop where
  sub : Same R' H'
  r0 : Same c.R0 R'
  e1 : ∀ a o, c.io ≠ some a → c.H0 a = some o → H' a = some o
  e2 : ∀ a o, R' a = some o → c.R0 a = some o ∨ c.H0 a = none
  dom : ∀ a, H' a = none → c.H0 a = none
  io : ∀ p, c.io = some p → ∃ cs cv, c' = .lst cs ∧ H' p = some (.lst cv) ∧ R' p = none ∧ AtL K R' cs cv
def RetVal (K : PySem.W.Frag) (H0 R' H' : Hp) (d : D) (v : V) : Kd → Prop
  | .pu => At K R' d v
  | .fr => (isL (some d) = false → At K R' d v) ∧ ∀ ds, d = .lst ds → ∃ q vs, v = .ref q ∧ H' q = some (.lst vs) ∧ R' q = none ∧ AtL K R' ds vs ∧ H0 q = none
  | .rd => False
def spD (K : PySem.W.Frag) (io : Bool) (m : Kd) (φ : DFn) : Sp := fun vs H Q E => ∃ (c : Ctx) (ds : List D) (EF : Addr → List Str → List D → D → Prop) (P : D → D → Prop),
  c.H0 = H ∧ Same c.R0 H ∧ ArgsOK K io c ds vs ∧ φ ds EF P ∧
  (∀ r c' v H' R', P r c' → Out K c H' R' c' → RetVal K c.H0 R' H' r v m → Q v H') ∧
  (∀ C ns es c' d vs' H' R', EF C ns es c' → Out K c H' R' c' → H' d = some (.xd (ns.zip vs')) → ns.length = vs'.length → AtL K R' es vs' → E (.ref C) (some d) H')
/-! ### a call of a def -/
def wCall (φ : DFn) (v : DTA) : DTE := fun E ε P => v E ε fun ds ε1 => φ ds (fun C ns es _ => E C ns es ε1) fun r _ => P r ε1
/-- behind a call that changes nothing that is owned -/
theorem Out.gw {K : PySem.W.Frag} {c' : Ctx} {H1 R1 H' R' : Hp} {z : D} (o : Out K c' H' R' z) (hH : c'.H0 = H1) (hR : c'.R0 = R1) (hi : c'.io = none) : Gw R1 H1 R' H' := by
  subst hH hR
  exact ⟨o.r0, fun a x h => o.e1 a x (by rw [hi]; exact fun z => nomatch z) h, o.sub, o.e2⟩
theorem snd_call {sp : Sp} {m : Kd} {φ : DFn} {t : TA} (hφ : FMono φ) (hm : m ≠ .rd) (sa : SndA X.K c W Γ t u va) : Snd X.K c W Γ (tCallS (spD X.K false m φ) (WE W) t) m u (wCall φ va) := by
  intro σ H ε R E P Q r x p q
  refine sa σ H ε R E _ _ r x p fun ds ε1 vs H1 R1 p1 r1 s1 l1 => ?_
  refine ⟨⟨R1, H1, none⟩, ds, _, _, rfl, r1.sub, ⟨rfl, l1⟩, p1, fun z _ v H' R' pz o rv => ?_, fun C ns es _ d vs' H' R' pe o h1 h2 h3 => ?_⟩
  · have g := o.gw rfl rfl rfl
    have s3 := s1.trans (g.stp (Γ := Γ) (σ := σ) (ε := ε1))
    rw [Bool.or_false] at s3
    refine q z ε1 v H' R' pz (g.rel r1) s3 ?_
    have vn : ValN X.K H1 R' H' z v m := by
      cases m with
      | pu => exact rv
      | rd => exact absurd rfl hm
      | fr => exact ⟨rv.1, fun ds e => rv.2 ds e⟩
    exact vn.val r1 s1
  · have g := o.gw rfl rfl rfl
    exact x _ _ _ _ _ _ _ _ _ _ pe (g.rel r1) h1 h2 h3
theorem wCall_mono {φ : DFn} (hφ : FMono φ) (ma : ∀ E ε P P', (∀ d ε', P d ε' → P' d ε') → va E ε P → va E ε P') (E : DEx) (ε : DEnv) (P P' : D → DEnv → Prop) (h : ∀ d ε', P d ε' → P' d ε') (p : wCall φ va E ε P) : wCall φ va E ε P' :=
  ma _ _ _ _ (fun _ _ q => hφ _ _ _ _ (fun _ _ q => h _ _ q) q) p
theorem de_call {n : Nat} {f : Addr} {fd : FuncData} {ps : List Str} {m : Kd} {φ : DFn} (G : FnOk X.prog X.w X.K X.mg X.base (L2.CX X.prog X.w) n f fd ps (spD X.K false m φ)) (hφ : FMono φ) (hr : Room n X.A) (hg : Gl X x) (hmg : X.mg x = some (.ref f)) (hk : PySem.W.keepIn X.K (.ref f) = true)
    (hb : Binds X.K fd ps []) (tk : Takes X W) (ha : DA X c W Γ (e :: es) u va) (hm : m ≠ .rd := by decide) (hdb : (x == ("__debug__" : Str)) = false := by decide) (he : starEach (e :: es) X.env = (false, eval e X.env) :: starEach es X.env := by rfl) (hpl : (backTo pos (starEach es X.env)).any (·.1) = false := by rfl) :
    DE X c W Γ (.Call (.Name x p) (e :: es) [] pos) m u (wCall φ va) := by
  obtain ⟨⟨t, pa, sa⟩, ma⟩ := ha
  exact ⟨⟨_, pe_callS G hr hg hmg hk hb (fun σ => passAt tk σ) pa hdb he hpl, snd_call (sp := spD X.K false m φ) hφ hm sa⟩, wCall_mono hφ ma⟩
/-- f(): nothing is let out -/
def wCall0 (φ : DFn) : DTE := fun E ε P => φ [] (fun _ _ _ _ => False) fun r _ => P r ε
theorem de_call0 {n : Nat} {f : Addr} {fd : FuncData} {ps : List Str} {m : Kd} {φ : DFn} (G : FnOk X.prog X.w X.K X.mg X.base (L2.CX X.prog X.w) n f fd ps (spD X.K false m φ)) (hφ : FMono φ) (hr : Room n X.A) (hg : Gl X x) (hmg : X.mg x = some (.ref f)) (hk : PySem.W.keepIn X.K (.ref f) = true)
    (hb : Binds X.K fd ps []) (hm : m ≠ .rd := by decide) (hdb : (x == ("__debug__" : Str)) = false := by decide) : DE X c W Γ (.Call (.Name x p) [] [] pos) m false (wCall0 φ) := by
  refine ⟨⟨_, pe_call0 G hr hg hmg hk hb .nil passL hdb, fun σ H ε R E P Q r x p q => ?_⟩, fun E ε P P' h p => hφ _ _ _ _ (fun _ _ q => h _ _ q) p⟩
  refine ⟨⟨R, H, none⟩, [], _, _, rfl, r.sub, ⟨rfl, AtL.nil⟩, p, fun z _ v H' R' pz o rv => ?_, fun C ns es _ d vs' H' R' pe o h1 h2 h3 => pe⟩
  have g := o.gw rfl rfl rfl
  refine q z ε v H' R' pz (g.rel r) (g.stp (Γ := Γ) (σ := σ) (ε := ε)) ?_
  have vn : ValN X.K H R' H' z v m := by
    cases m with
    | pu => exact rv
    | rd => exact absurd rfl hm
    | fr => exact ⟨rv.1, fun ds e => rv.2 ds e⟩
  exact vn.val r (Stp.refl (u := false))
/-! ### a call that may change an owned list, handed in first -/
def asL : D → Option (List D)
  | .lst ds => some ds
  | _ => none
theorem asL_inv {d : D} {i : List D} (h : asL d = some i) : d = .lst i := by
  cases d <;> first | (injection h with h; rw [h]) | cases h
def wCallIo (φ : DFn) (i : Nat) (v : DTA) : DTE := fun E ε P => (∃ d, sl ε i = some d) ∧ v E ε fun ds ε1 => onS (sl ε1 i) fun d => onS (asL d) fun cs => φ (.lst cs :: ds) (fun C ns es c' => E C ns es (ε1.set i (some c'))) fun r c' => P r (ε1.set i (some c'))
theorem sl_set {ε : DEnv} {i j : Nat} {o : Option D} (h : i < ε.length) : sl (ε.set i o) j = if i = j then o else sl ε j := by
  show ((ε.set i o)[j]?).getD none = _
  rw [List.getElem?_set]
  by_cases e : i = j
  · subst e
    rw [if_pos rfl, if_pos rfl, if_pos h]; rfl
  · rw [if_neg e, if_neg e]; rfl
theorem sl_lt {ε : DEnv} {i : Nat} {d : D} (h : sl ε i = some d) : i < ε.length := by
  by_cases z : i < ε.length
  · exact z
  · exfalso
    have e : sl ε i = none := by
      show (ε[i]?).getD none = none
      rw [List.getElem?_eq_none (by omega)]; rfl
    rw [e] at h; cases h
/-- the list at slot i has been changed -/
theorem Rel.ioStep {K : PySem.W.Frag} {σ : St} {H R H' R' : Hp} {ε : DEnv} {i : Nat} {q : Addr} {cs cs' : List D} {cv' : List V} (r : Rel K c Γ σ H ε R) (hd : sl ε i = some (.lst cs)) (hm : md Γ i ≠ .sh) (hσ : σ[i]? = some (some (.ref q)))
    (o1 : Same R' H') (o2 : Same R R') (o3 : ∀ a o, some q ≠ some a → H a = some o → H' a = some o) (o4 : ∀ a o, R' a = some o → R a = some o ∨ H a = none) (o5 : ∀ a, H' a = none → H a = none)
    (h1 : H' q = some (.lst cv')) (h2 : R' q = none) (h3 : AtL K R' cs' cv') : Rel K c Γ σ H' (ε.set i (some (.lst cs'))) R' ∧ Stp true Γ σ ε R H (ε.set i (some (.lst cs'))) R' H' := by
  have hlt := sl_lt hd
  have own : OwnAt Γ σ ε i q := ⟨hm, by rw [hd]; rfl, hσ⟩
  have shp : ∀ j, isL (sl (ε.set i (some (.lst cs'))) j) = isL (sl ε j) := fun j => by
    rw [sl_set hlt]
    by_cases e : i = j
    · subst e; rw [if_pos rfl, hd]; rfl
    · rw [if_neg e]
  have oiff : ∀ j a, OwnAt Γ σ (ε.set i (some (.lst cs'))) j a ↔ OwnAt Γ σ ε j a := fun j a => by unfold OwnAt; rw [shp j]
  obtain ⟨_, _, _, hq1, hq2, _, hq3⟩ := r.ownH own
  refine ⟨⟨by rw [List.length_set]; exact r.len, fun j d h m => ?_, fun j ds h m => ?_, fun j l a h1 h2 => r.sep j l a ((oiff j a).mp h1) ((oiff l a).mp h2), fun p hp => ?_, r.iox, o1, r.r0.trans o2, fun a o n h => ?_, fun a o h => ?_, fun a h => r.dom a (o5 a h)⟩, ⟨o2, fun a o n h => o3 a o (fun z => ?_) h, o4, o5, shp, fun z => nomatch z⟩⟩
  · rw [sl_set hlt] at h
    by_cases e : i = j
    · subst e
      rw [if_pos rfl] at h
      injection h with h
      subst h
      rcases m with m | m
      · exact absurd m hm
      · cases m
    · rw [if_neg e] at h
      obtain ⟨v, e1, e2⟩ := r.pure j d h m
      exact ⟨v, e1, At.mono o2 d v e2⟩
  · rw [sl_set hlt] at h
    by_cases e : i = j
    · subst e
      rw [if_pos rfl] at h
      injection h with h
      injection h with h
      subst h
      exact ⟨q, cv', hσ, h1, h2, h3, hq3⟩
    · rw [if_neg e] at h
      obtain ⟨p', vs, e1, e2, e3, e4, e5⟩ := r.own j ds h m
      have ne : some q ≠ some p' := fun z => by
        injection z with z
        subst z
        exact e (r.sep i j _ own ⟨m, by rw [h]; rfl, e1⟩)
      refine ⟨p', vs, e1, o3 _ _ ne e2, ?_, AtL.mono o2 ds vs e4, e5⟩
      cases z : R' p' with
      | none => rfl
      | some o =>
        rcases o4 p' o z with z2 | z2
        · rw [e3] at z2; cases z2
        · rw [e2] at z2; cases z2
  · obtain ⟨z1, z2⟩ := r.io p hp
    exact ⟨z1, (oiff 0 p).mpr z2⟩
  · have ne : some q ≠ some a := fun z => by
      injection z with z
      subst z
      rcases hq3 with hq3 | hq3
      · rw [h] at hq3; cases hq3
      · exact n hq3
    exact o3 a o ne (r.e1 a o n h)
  · rcases o4 a o h with z | z
    · exact r.e2 a o z
    · exact .inr (r.dom a z)
  · injection z with z
    subst z
    exact n i own
theorem de_callIo (i : Nat) {n : Nat} {f : Addr} {fd : FuncData} {ps : List Str} {m : Kd} {φ : DFn} (G : FnOk X.prog X.w X.K X.mg X.base (L2.CX X.prog X.w) n f fd ps (spD X.K true m φ)) (hφ : FMono φ) (hr : Room n X.A) (hg : Gl X x) (hmg : X.mg x = some (.ref f)) (hk : PySem.W.keepIn X.K (.ref f) = true)
    (hb : Binds X.K fd ps []) (tk : Takes X W) (hi : X.N[i]? = some y) (hv : Vis X.env.scope y) (hmd : md Γ i ≠ .sh) (ha : DA X c W Γ es u va) (hm : m ≠ .rd := by decide) (hdb : (x == ("__debug__" : Str)) = false := by decide) (hdy : (y == ("__debug__" : Str)) = false := by decide) (hcy : (y == ("__classdict__" : Str)) = false := by decide)
    (he : starEach (.Name y p2 :: es) X.env = (false, eval (.Name y p2) X.env) :: starEach es X.env := by rfl) (hpl : (backTo pos (starEach es X.env)).any (·.1) = false := by rfl) :
    DE X c W Γ (.Call (.Name x p) (.Name y p2 :: es) [] pos) m true (wCallIo φ i va) := by
  obtain ⟨⟨t, pa, sa⟩, ma⟩ := ha
  refine ⟨⟨_, pe_callS G hr hg hmg hk hb (fun σ => passAt tk σ) (pa_cons (pe_var hi hv hdy hcy) pa he) hdb he hpl, fun σ H ε R E P Q r x p q => ?_⟩, fun E ε P P' h p => ⟨p.1, ma _ _ _ _ (fun _ _ q => onS_mono (fun _ q => onS_mono (fun _ q => hφ _ _ _ _ (fun _ _ q => h _ _ q) q) q) q) p.2⟩⟩
  obtain ⟨⟨d0, hd0⟩, p⟩ := p
  obtain ⟨v0, hv0, _⟩ := r.has hd0
  refine ⟨v0, hv0, sa σ H ε R E _ _ r x p fun ds ε1 vs H1 R1 p1 r1 s1 l1 => ?_⟩
  obtain ⟨d, hd, p1⟩ := onS_inv p1
  obtain ⟨cs, hcs, p1⟩ := onS_inv p1
  have := asL_inv hcs
  subst this
  obtain ⟨a, cv, e1, e2, e3, e4, e5⟩ := r1.own i cs hd hmd
  have ev : v0 = .ref a := by rw [hv0] at e1; injection e1 with z; injection z
  subst ev
  refine ⟨⟨R1, H1, some a⟩, .lst cs :: ds, _, _, rfl, r1.sub, ⟨a, vs, cs, cv, ds, rfl, rfl, rfl, e2, e3, e4, l1⟩, p1, fun z c' v H' R' pz o rv => ?_, fun C ns es c' d vs' H' R' pe o h1 h2 h3 => ?_⟩
  · obtain ⟨cs', cv', ec, h1, h2, h3⟩ := o.io a rfl
    subst ec
    obtain ⟨r3, s3⟩ := r1.ioStep hd hmd e1 o.sub o.r0 (fun b x n h => o.e1 b x n h) o.e2 o.dom h1 h2 h3
    refine q z _ v H' R' pz r3 (s1.trans s3 |> fun s => by rw [Bool.or_true] at s; exact s) ?_
    cases m with
    | pu => exact rv
    | rd => exact absurd rfl hm
    | fr =>
      refine ⟨rv.1, fun ds e => ?_⟩
      obtain ⟨b, vs, f1, f2, f3, f4, f5⟩ := rv.2 ds e
      refine ⟨b, vs, f1, f2, f3, f4, s1.d _ f5, fun j w => ?_⟩
      have w' := (s3.own (i := j) (a := b)).mp w
      obtain ⟨_, _, _, h5, _⟩ := r1.ownH w'
      rw [show H1 b = none from f5] at h5; cases h5
  · obtain ⟨cs', cv', ec, h5, h6, h7⟩ := o.io a rfl
    subst ec
    obtain ⟨r3, s3⟩ := r1.ioStep hd hmd e1 o.sub o.r0 (fun b x n h => o.e1 b x n h) o.e2 o.dom h5 h6 h7
    exact x _ _ _ _ _ _ _ _ _ _ pe r3 h1 h2 h3
end
end DL
set_option Elab.async false
set_option linter.all false
set_option maxRecDepth 100000
set_option maxHeartbeats 2000000
/-! enumerate and zip over lists, tuples, texts in any mix, as what HandS walks -/
namespace DL
open PySem PySem.Spec L2
open PyProof.Rows hiding St

/-- what is walked: a list, a tuple, a text -/
inductive SrcK | l (a : Addr) | t (a : Addr) | s (z : Str)
def SrcK.Is (K : PySem.W.Frag) (H : Hp) (k : SrcK) (x : V) (vs : List V) : Prop := match k with
  | .l a => x = .ref a ∧ SqL K H a vs
  | .t a => x = .ref a ∧ SqT K H a vs
  | .s z => x = .str z ∧ vs = z.cps.toList.map fun c => .str ⟨#[c]⟩
/-- what it holds, by the heap -/
def SrcK.has (K : PySem.W.Frag) (H : Hp) (k : SrcK) (vs : List V) : Prop := match k with
  | .l a => SqL K H a vs
  | .t a => SqT K H a vs
  | .s z => vs = z.cps.toList.map fun c => .str ⟨#[c]⟩
def SrcK.it (k : SrcK) (t : Tok) (it : Addr) (i : Nat) (h : Heap) : Prop := match k with
  | .l a => h.IsListIter it a i
  | .t a => h.IsTupleIter it a i
  | .s z => h.IsStrIter it (strIterType z) z t i
def SrcK.fp (k : SrcK) : List Addr := match k with
  | .l a => [a]
  | .t a => [a]
  | .s _ => []
def SrcK.src (k : SrcK) (its : Array Value) (h : Heap) : Prop := match k with
  | .l a => h.IsList a its
  | .t a => h.IsTuple a its
  | .s z => True
def SrcK.P (k : SrcK) (its : Array Value) (i : Nat) (v : Value) : Prop := match k with
  | .l _ => its[i]? = some v
  | .t _ => its[i]? = some v
  | .s z => ∃ c u, z.cps[i]? = some c ∧ v = .str ⟨#[c]⟩ u
def SrcK.n (k : SrcK) (its : Array Value) : Nat := match k with
  | .l _ => its.size
  | .t _ => its.size
  | .s z => z.cps.size
section
variable {prog : Program} {w : World} {A : Around} {k : SrcK} {it : Addr} {tk : Tok} {its : Array Value}
theorem SrcK.draws (hh : A.handled = none) (hne : it ∉ k.fp) (tk : Tok) : Draws prog w A it (it :: k.fp) (k.n its) (k.P its) (fun i h => k.it tk it i h ∧ k.src its h) := by
  cases k with
  | l a => exact Draws.list hh it a (fun e => hne (by rw [e]; exact List.mem_singleton.mpr rfl)) its
  | t a => exact Draws.tuple hh it a (fun e => hne (by rw [e]; exact List.mem_singleton.mpr rfl)) its
  | s z =>
    have D := Draws.text (prog := prog) (w := w) hh it z tk
    exact ⟨fun i h st => D.live i h st.1, fun i h h' st hk => ⟨D.frame i h h' st.1 hk, trivial⟩, fun i s Q E hi st hQ => D.item i s Q E hi st.1 fun x h' tk p q r => hQ x h' tk p ⟨q, trivial⟩ r, fun s Q E st hE => D.done s Q E st.1 hE⟩
theorem SrcK.itat {i : Nat} {h h' : Heap} (st : k.it tk it i h) (hk : ∀ o, h.get? it = some o → h'.get? it = some o) : k.it tk it i h' := by
  cases k with
  | l a => exact Heap.IsListIter.at st hk
  | t a => exact Heap.IsTupleIter.at st hk
  | s z => obtain ⟨o, ho, r⟩ := st; exact ⟨o, hk o ho, r⟩
theorem SrcK.itobj {i : Nat} {h : Heap} (st : k.it tk it i h) : ∃ o, h.get? it = some o ∧ ∀ v, o.data ≠ .cell v := by
  cases k with
  | l a => obtain ⟨o, e, c, d⟩ := st; exact ⟨o, e, fun v z => by rw [d] at z; cases z⟩
  | t a => obtain ⟨o, e, c, d⟩ := st; exact ⟨o, e, fun v z => by rw [d] at z; cases z⟩
  | s z => obtain ⟨o, e, c, d⟩ := st; exact ⟨o, e, fun v z => by rw [d] at z; cases z⟩
/-- the values and the model's own -/
theorem SrcK.vals {X : Cx} {pins : List (Addr × Obj)} {σ : St} {H : Hp} {s : Shared} {vs : List V} (I : Inv X pins σ H s) (h : k.has X.K H vs) :
    ∃ its : Array Value, k.src its s.heap ∧ k.n its = vs.length ∧ ∀ i u, k.P its i u → ∃ x, vs[i]? = some x ∧ RelV x u := by
  cases k with
  | l a =>
    obtain ⟨us, r, p, _⟩ := I.list h
    refine ⟨us.toArray, p.isList, by show us.toArray.size = _; rw [List.size_toArray, r.length], fun i u q => ?_⟩
    have q' : us[i]? = some u := by simpa [SrcK.P] using q
    have hlt : i < vs.length := by rw [r.length]; exact (List.getElem?_eq_some_iff.mp q').1
    obtain ⟨u', h1, h2⟩ := r.get (List.getElem?_eq_getElem hlt)
    rw [q'] at h1; cases h1
    exact ⟨_, List.getElem?_eq_getElem hlt, h2⟩
  | t a =>
    obtain ⟨us, r, p, _⟩ := I.tuple h
    refine ⟨us.toArray, p, by show us.toArray.size = _; rw [List.size_toArray, r.length], fun i u q => ?_⟩
    have q' : us[i]? = some u := by simpa [SrcK.P] using q
    have hlt : i < vs.length := by rw [r.length]; exact (List.getElem?_eq_some_iff.mp q').1
    obtain ⟨u', h1, h2⟩ := r.get (List.getElem?_eq_getElem hlt)
    rw [q'] at h1; cases h1
    exact ⟨_, List.getElem?_eq_getElem hlt, h2⟩
  | s z =>
    have h' : vs = z.cps.toList.map fun c => V.str ⟨#[c]⟩ := h
    subst h'
    refine ⟨#[], trivial, by show z.cps.size = _; simp, fun i u q => ?_⟩
    obtain ⟨c, t, hc, rfl⟩ := q
    exact ⟨.str ⟨#[c]⟩, by simp [hc], ⟨t, rfl⟩⟩
theorem SrcK.has_inj {X : Cx} {pins : List (Addr × Obj)} {σ : St} {H : Hp} {s : Shared} {vs ws : List V} (I : Inv X pins σ H s) (h : k.has X.K H vs) (h' : k.has X.K H ws) : vs = ws := by
  cases k with
  | l a => exact I.list_inj h h'
  | t a => exact I.tuple_inj h h'
  | s z => exact (show vs = _ from h).trans (show ws = _ from h').symm
end
theorem SrcK.fplt {X : Cx} {pins : List (Addr × Obj)} {σ : St} {H : Hp} {s : Shared} {k : SrcK} {vs : List V} (I : Inv X pins σ H s) (h : k.has X.K H vs) : ∀ b ∈ k.fp, b < s.heap.objs.size := by
  cases k with
  | l a =>
    obtain ⟨us, r, p, _⟩ := I.list h
    intro b hb
    rw [List.mem_singleton.mp hb]; exact p.lt
  | t a =>
    obtain ⟨us, r, p, _⟩ := I.tuple h
    intro b hb
    rw [List.mem_singleton.mp hb]; exact p.lt
  | s z => intro b hb; cases hb

/-! ### enumerate -/
def ItEn (K : PySem.W.Frag) (k : SrcK) : It :=
  ⟨fun i H => ∃ vs, k.has K H vs ∧ i < vs.length, fun i H v H' => ∃ T x, v = .ref T ∧ H T = none ∧ H' = upd H T (.tup [.int (i : Nat), x]) ∧ ∀ vs, k.has K H vs → vs[i]? = some x, fun i H => ∃ vs, k.has K H vs ∧ i = vs.length⟩
def tnEn (k : SrcK) (tk : Tok) (e it : Addr) (i : Nat) (h : Heap) : Prop := (∃ old, IsEnum h e it ((0 : Int) + (i : Nat)) old) ∧ k.it tk it i h ∧ e ≠ it ∧ e ∉ k.fp ∧ it ∉ k.fp
theorem turn_en {P : Program} {w : World} {K : PySem.W.Frag} {elts : List Expr} {kk : Nat} {tpos : Pos} (k : SrcK) (tk : Tok) (e it : Addr) : Turn P w K (.Tuple elts kk tpos) (ItEn K k) [e, it] e (tnEn k tk e it) where
  mem := by simp
  obj := fun i h st b hb => by
    obtain ⟨⟨old, he⟩, hi, _⟩ := st
    have e' : b = e ∨ b = it := by simpa using hb
    rcases e' with z | z
    · rw [z]; exact ⟨_, he, fun v q => nomatch q⟩
    · rw [z]; exact SrcK.itobj hi
  keep := fun i h h' st q => let ⟨⟨old, he⟩, hi, hne⟩ := st; ⟨⟨old, q e (by simp) _ he⟩, SrcK.itat hi fun o z => q it (by simp) o z, hne⟩
  item := by
    intro X hP hw hK hc i pins s σ H E I hf st hg
    subst hP hw hK
    obtain ⟨⟨old, he⟩, hit, hne, hef, hif⟩ := st
    obtain ⟨vs, hq, hlt⟩ := hg
    obtain ⟨its, hsrc, hn, hP⟩ := SrcK.vals I hq
    have W := GoesN.enumFrom (prog := X.prog) (w := X.w) (A := X.A) (elts := elts) (x1 := kk) (pos := tpos) 0 (SrcK.draws (k := k) (its := its) (show X.A.in1.handled = none from I.ok.hd hc) hif tk) e hne (fun z => (List.mem_cons.mp z).elim hne hef) (List.mem_cons_self ..)
    have hlen : ∀ b ∈ [e, it], b < s.heap.objs.size := fun b hb => by
      have e' : b = e ∨ b = it := by simpa using hb
      rcases e' with z | z
      · rw [z]; exact Heap.lt_size he
      · rw [z]; obtain ⟨o, ho, _⟩ := SrcK.itobj hit; exact Heap.lt_size ho
    refine W.goes i s _ _ (by rw [hn]; exact hlt) ⟨⟨old, he⟩, hit, hsrc⟩ fun v h' tk' hY st' hk htk => ?_
    obtain ⟨T, t, u, ev, hT, hPu, hTup⟩ := hY
    subst ev
    obtain ⟨x, hx, rx⟩ := hP i u hPu
    have new : ObjOk X.prog X.w (upd H T (.tup [.int (i : Nat), x])) h' T (.tup [.int (i : Nat), x]) :=
      ⟨by rw [sizeLine_eq]; show 2 ≤ 16777216; decide, [.int (0 + (i : Int)) t, u], .cons ⟨t, by rw [Int.zero_add]⟩ (.cons rx .nil), hTup⟩
    have I1 : Inv X pins σ (upd H T (.tup [.int (i : Nat), x])) { s with heap := h', toks := tk' } := I.turnedNew (ch := [e, it]) (fun b ob hb q => hk b ob hb q) hf hT new
    obtain ⟨⟨old', he'⟩, hit', _⟩ := st'
    refine ⟨.ref T, _, I1, rfl, ⟨T, x, rfl, I.hok.fresh hT, rfl, fun ws hw => by rw [SrcK.has_inj I hw hq]; exact hx⟩, ⟨⟨old', he'⟩, hit', hne, hef, hif⟩, fun b hb => ?_⟩
    rw [upd_ne (Nat.ne_of_lt (Nat.lt_of_lt_of_le (hlen b hb) hT))]
    exact (hf b hb).1
  done := by
    intro X hP hw hK hc i pins s σ H E I hf st hg
    subst hP hw hK
    obtain ⟨⟨old, he⟩, hit, hne, hef, hif⟩ := st
    obtain ⟨vs, hq, hlt⟩ := hg
    obtain ⟨its, hsrc, hn, hP⟩ := SrcK.vals I hq
    have W := GoesN.enumFrom (prog := X.prog) (w := X.w) (A := X.A) (elts := elts) (x1 := kk) (pos := tpos) 0 (SrcK.draws (k := k) (its := its) (show X.A.in1.handled = none from I.ok.hd hc) hif tk) e hne (fun z => (List.mem_cons.mp z).elim hne hef) (List.mem_cons_self ..)
    exact W.stops s _ _ (by rw [hn, ← hlt]; exact ⟨⟨old, he⟩, hit, hsrc⟩) fun h' tk' hk htk => I.turnedL (ch := [e, it]) (fun b ob hb q => hk b ob hb q) hf
  self := fun A i s Q E st h => let ⟨⟨_, he⟩, _⟩ := st; wpAny_pyIter_enum he h

set_option maxHeartbeats 1000000 in
theorem meets_enum1 {v : Value} {o : Obj} {H : Heap → Prop} (B : Begins v o H) :
    Meets (Builtin.«enumerate.__new__» ⟨[.type "enumerate", v], []⟩) (fun _ R s => H s.heap ∧
      R (.ok (.ret (.ref (s.heap.push o).objs.size))) { s with heap := (s.heap.push o).push { cls := .type "enumerate", data := .fields #[.none, .bool false, .ref s.heap.objs.size, rawInt 0, .none, .none] } }) :=
  .of_wp fun prog w A R s h => by
    obtain ⟨hp, g, d, tk, os⟩ := s; obtain ⟨h1, h⟩ := h
    have hsub := sub_enumerate
    have q1 : ∀ {A' : Around} {E : Value → Shared → Prop} {Q : Value → Shared → Prop}, Q (.ref hp.objs.size) ⟨hp.push o, g, d, tk, os⟩ → wpAny (model prog w) A' (pyIter v) Q E ⟨hp, g, d, tk, os⟩ :=
      fun q => B.iter prog w _ _ ⟨hp, g, d, tk, os⟩ _ h1 q
    wp_walk using q1
    refine wpAny_stack_any fun st => wpAny_pure ?_
    split
    · rename_i c _ _ _ _ _
      cases (c == Value.type "enumerate")
      · wp_walk using q1
        exact ⟨_, rfl, h⟩
      · wp_walk using q1
        exact ⟨_, rfl, h⟩
    · wp_walk using q1
      exact ⟨_, rfl, h⟩
theorem enum_begins1 {prog : Program} {w : World} {A : Around} {E : Value → Shared → Prop} {s : Shared} {v : Value} {o : Obj} {H : Heap → Prop} {Q : Value → Shared → Prop} (B : Begins v o H) (h1 : H s.heap)
    (h : ∀ h', IsEnum h' (s.heap.objs.size + 1) s.heap.objs.size 0 .none → h'.get? s.heap.objs.size = some o → h'.objs.size = s.heap.objs.size + 2 →
      (∀ b o, s.heap.get? b = some o → h'.get? b = some o) → Q (.ref (s.heap.objs.size + 1)) { s with heap := h' }) :
    wpAny (model prog w) A (call (.type "enumerate") [v]) Q E s := by
  refine callType_new F.called_enumerate (by decide) (F.typeCall_enumerate_1 _) (F.newCall_enumerate_1 _) (fun obj => F.args_object_init_2 obj _) F.entry_enumerate_new
    (meets_enum1 B) ⟨h1, ?_⟩
  have hz : (s.heap.push o).objs.size = s.heap.objs.size + 1 := Heap.size_push ..
  show _ ∧ _
  rw [hz]
  have he : IsEnum ((s.heap.push o).push { cls := .type "enumerate", data := .fields #[.none, .bool false, .ref s.heap.objs.size, rawInt 0, .none, .none] }) (s.heap.objs.size + 1) s.heap.objs.size 0 .none := by
    have := Heap.get?_push_size (s.heap.push o) (o := { cls := .type "enumerate", data := .fields #[.none, .bool false, .ref s.heap.objs.size, rawInt 0, .none, .none] }) rfl
    rw [hz] at this; exact this
  refine ⟨⟨_, he, rfl⟩, h _ he (Heap.get?_push_of_some _ (Heap.get?_push_size _ B.free)) (by rw [Heap.size_push, hz]) fun b o x => Heap.get?_push_of_some _ (Heap.get?_push_of_some _ x)⟩
/-- what stands at the start of a walk -/
theorem SrcK.begins {X : Cx} {pins : List (Addr × Obj)} {σ : St} {H : Hp} {s : Shared} {k : SrcK} {x : V} {vs : List V} {v : Value} (I : Inv X pins σ H s) (h : k.Is X.K H x vs) (r : RelV x v) :
    k.has X.K H vs ∧ ∃ (o : Obj) (HH : Heap → Prop) (tk : Tok), Begins v o HH ∧ HH s.heap ∧ ∀ h' it, h'.get? it = some o → k.it tk it 0 h' := by
  cases k with
  | l a =>
    obtain ⟨e, h⟩ := h
    subst e
    cases r
    obtain ⟨us, r, p, _⟩ := I.list h
    exact ⟨h, _, _, default, begins_list a us.toArray, p.isList, fun h' it e => ⟨_, e, rfl, rfl⟩⟩
  | t a =>
    obtain ⟨e, h⟩ := h
    subst e
    cases r
    obtain ⟨us, r, p, _⟩ := I.tuple h
    exact ⟨h, _, _, default, begins_tuple a us.toArray, p, fun h' it e => ⟨_, e, rfl, rfl⟩⟩
  | s z =>
    obtain ⟨e, h⟩ := h
    subst e
    obtain ⟨t, rfl⟩ := r
    exact ⟨h, _, _, t, begins_text z t, trivial, fun h' it e => ⟨_, e, rfl, rfl⟩⟩
def one1 (F : V → Hp → Prop) : List V → Hp → Prop := fun vs H => match vs with
  | [x] => F x H
  | _ => False
theorem one1_inv {F : V → Hp → Prop} {vs : List V} {H : Hp} (h : one1 F vs H) : ∃ x, vs = [x] ∧ F x H := by
  match vs, h with
  | [x], h => exact ⟨x, rfl, h⟩
def two2 (F : V → V → Hp → Prop) : List V → Hp → Prop := fun vs H => match vs with
  | [x, y] => F x y H
  | _ => False
theorem two2_inv {F : V → V → Hp → Prop} {vs : List V} {H : Hp} (h : two2 F vs H) : ∃ x y, vs = [x, y] ∧ F x y H := by
  match vs, h with
  | [x, y], h => exact ⟨x, y, rfl, h⟩
def iEn (K : PySem.W.Frag) (ta : TE) : TI := fun σ H R => ta σ H fun x H1 => ∃ k vs, SrcK.Is K H1 k x vs ∧ R (ItEn K k) H1
theorem pi_en {X : Cx} {e : Expr} {ta : TE} {p pos tpos : Pos} {elts : List Expr} {kk : Nat} (hg : Gl X "enumerate") (hm : X.mg "enumerate" = none) (ha : PE X e ta) (hs : starEach [e] X.env = [(false, eval e X.env)] := by rfl) :
    PI X (.Tuple elts kk tpos) (.Call (.Name "enumerate" p) [e] [] pos) (iEn X.K ta) := by
  refine ⟨fun pins s σ H R I h => ?_⟩
  have ha' : PA X [e] (tCons ta tNil) := pa_cons ha pa_nil hs
  refine Call_ (ld_blt I hg hm boot_enumerate (PyProof.Rows.callWith_type1 (thn (ha'.run pos pins s σ H (one1 fun x H1 => ∃ k ws, SrcK.Is X.K H1 k x ws ∧ R (ItEn X.K k) H1) I h) fun us s1 ⟨vs, H1, I1, r1, q1⟩ => ?_) hs rfl))
  obtain ⟨x, ex, k, ws, hq, q⟩ := one1_inv q1
  subst ex
  obtain ⟨u, rfl, ru⟩ := vals1 r1
  obtain ⟨hhas, o, HH, tk, B, hB, hit⟩ := SrcK.begins I1 hq ru
  have hlt := SrcK.fplt I1 hhas
  refine enum_begins1 B hB fun h' he ho hsz hk => wpAny_pyIter_enum he ?_
  have I2 : Inv X pins σ H1 { s1 with heap := h' } := I1.kept (t' := s1.toks) hk
  refine ⟨s1.heap.objs.size + 1, [s1.heap.objs.size + 1, s1.heap.objs.size], _, _, H1, rfl, I2, turn_en k tk (s1.heap.objs.size + 1) s1.heap.objs.size, ⟨⟨.none, he⟩, hit _ _ ho, Nat.succ_ne_self _, fun z => absurd (hlt _ z) (by exact Nat.not_lt.mpr (Nat.le_succ _)), fun z => absurd (hlt _ z) (Nat.lt_irrefl _)⟩, fun b hb => ?_, q⟩
  have e' : b = s1.heap.objs.size + 1 ∨ b = s1.heap.objs.size := by simpa using hb
  have hle : s1.heap.objs.size ≤ b := by
    rcases e' with z | z
    · rw [z]; exact Nat.le_add_right _ _
    · rw [z]; exact Nat.le_refl _
  exact I1.fpOk hle (I1.hok.fresh hle)

/-! ### zip -/
def ItZp (K : PySem.W.Frag) (k l : SrcK) : It :=
  ⟨fun i H => ∃ vs ws, k.has K H vs ∧ l.has K H ws ∧ i < vs.length ∧ i < ws.length, fun i H v H' => ∃ T x y, v = .ref T ∧ H T = none ∧ H' = upd H T (.tup [x, y]) ∧ (∀ vs, k.has K H vs → vs[i]? = some x) ∧ ∀ ws, l.has K H ws → ws[i]? = some y,
    fun i H => ∃ vs ws, k.has K H vs ∧ l.has K H ws ∧ i = min vs.length ws.length⟩
def tnZp (k l : SrcK) (tk tl : Tok) (z TI TO i1 i2 : Addr) (i : Nat) (h : Heap) : Prop :=
  IsZip h z TI TO .none ∧ IsTupOf2 h TI (.ref i1) (.ref i2) ∧ (∃ a1 a2, IsTupOf2 h TO a1 a2) ∧ k.it tk i1 i h ∧ l.it tl i2 i h ∧ ZipSep2 z TI TO i1 i2 (i1 :: k.fp) (i2 :: l.fp) ∧ i1 ∉ k.fp ∧ i2 ∉ l.fp
theorem turn_zp {P : Program} {w : World} {K : PySem.W.Frag} {elts : List Expr} {kk : Nat} {tpos : Pos} (k l : SrcK) (tk tl : Tok) (z TI TO i1 i2 : Addr) :
    Turn P w K (.Tuple elts kk tpos) (ItZp K k l) [z, TI, TO, i1, i2] z (tnZp k l tk tl z TI TO i1 i2) where
  mem := by simp
  obj := fun i h st b hb => by
    obtain ⟨hz, hTI, ⟨a1, a2, hTO⟩, h1, h2, _⟩ := st
    have e' : b = z ∨ b = TI ∨ b = TO ∨ b = i1 ∨ b = i2 := by simpa using hb
    rcases e' with q | q | q | q | q
    · rw [q]; exact ⟨_, hz, fun v q => nomatch q⟩
    · rw [q]; exact ⟨_, hTI, fun v q => nomatch q⟩
    · rw [q]; exact ⟨_, hTO, fun v q => nomatch q⟩
    · rw [q]; exact SrcK.itobj h1
    · rw [q]; exact SrcK.itobj h2
  keep := fun i h h' st q => by
    obtain ⟨hz, hTI, ⟨a1, a2, hTO⟩, h1, h2, r⟩ := st
    exact ⟨q z (by simp) _ hz, q TI (by simp) _ hTI, ⟨a1, a2, q TO (by simp) _ hTO⟩, SrcK.itat h1 fun o e => q i1 (by simp) o e, SrcK.itat h2 fun o e => q i2 (by simp) o e, r⟩
  item := by
    intro X hP hw hK hc i pins s σ H E I hf st hg
    subst hP hw hK
    obtain ⟨hz, hTI, hTO, h1, h2, S, n1, n2⟩ := st
    obtain ⟨vs, ws, hq1, hq2, hlt1, hlt2⟩ := hg
    obtain ⟨its1, hs1, hn1, hP1⟩ := SrcK.vals I hq1
    obtain ⟨its2, hs2, hn2, hP2⟩ := SrcK.vals I hq2
    have hh : X.A.in1.handled = none := I.ok.hd hc
    have W := GoesN.zip2 (prog := X.prog) (w := X.w) (A := X.A) (elts := elts) (x1 := kk) (pos := tpos) S (SrcK.draws (k := k) (its := its1) hh n1 tk) (SrcK.draws (k := l) (its := its2) hh n2 tl)
    have hlen : ∀ b ∈ [z, TI, TO, i1, i2], b < s.heap.objs.size := fun b hb => by
      have e' : b = z ∨ b = TI ∨ b = TO ∨ b = i1 ∨ b = i2 := by simpa using hb
      rcases e' with q | q | q | q | q
      · rw [q]; exact Heap.lt_size hz
      · rw [q]; exact Heap.lt_size hTI
      · rw [q]; obtain ⟨_, _, q⟩ := hTO; exact Heap.lt_size q
      · rw [q]; obtain ⟨o, ho, _⟩ := SrcK.itobj h1; exact Heap.lt_size ho
      · rw [q]; obtain ⟨o, ho, _⟩ := SrcK.itobj h2; exact Heap.lt_size ho
    refine W.goes i s _ _ (by rw [hn1, hn2]; omega) ⟨hz, hTI, hTO, ⟨h1, hs1⟩, ⟨h2, hs2⟩⟩ fun v h' tk' hY st' hk htk => ?_
    obtain ⟨T, u1, u2, ev, hT, hPu, hPv, hTup⟩ := hY
    subst ev
    obtain ⟨x, hx, rx⟩ := hP1 i u1 hPu
    obtain ⟨y, hy, ry⟩ := hP2 i u2 hPv
    have new : ObjOk X.prog X.w (upd H T (.tup [x, y])) h' T (.tup [x, y]) :=
      ⟨by rw [sizeLine_eq]; show 2 ≤ 16777216; decide, [u1, u2], .cons rx (.cons ry .nil), hTup⟩
    have I1 : Inv X pins σ (upd H T (.tup [x, y])) { s with heap := h', toks := tk' } := I.turnedNew (ch := [z, TI, TO, i1, i2]) (fun b ob hb q => hk b ob (fun m => hb (by
      have : b = z ∨ b = TO ∨ b = i1 ∨ b = i2 := by simpa using m
      rcases this with q | q | q | q <;> simp [q])) q) hf hT new
    obtain ⟨hz', hTI', hTO', h1', h2'⟩ := st'
    refine ⟨.ref T, _, I1, rfl, ⟨T, x, y, rfl, I.hok.fresh hT, rfl, fun a ha => by rw [SrcK.has_inj I ha hq1]; exact hx, fun a ha => by rw [SrcK.has_inj I ha hq2]; exact hy⟩, ⟨hz', hTI', hTO', h1'.1, h2'.1, S, n1, n2⟩, fun b hb => ?_⟩
    rw [upd_ne (Nat.ne_of_lt (Nat.lt_of_lt_of_le (hlen b hb) hT))]
    exact (hf b hb).1
  done := by
    intro X hP hw hK hc i pins s σ H E I hf st hg
    subst hP hw hK
    obtain ⟨hz, hTI, hTO, h1, h2, S, n1, n2⟩ := st
    obtain ⟨vs, ws, hq1, hq2, hlt⟩ := hg
    obtain ⟨its1, hs1, hn1, hP1⟩ := SrcK.vals I hq1
    obtain ⟨its2, hs2, hn2, hP2⟩ := SrcK.vals I hq2
    have hh : X.A.in1.handled = none := I.ok.hd hc
    have W := GoesN.zip2 (prog := X.prog) (w := X.w) (A := X.A) (elts := elts) (x1 := kk) (pos := tpos) S (SrcK.draws (k := k) (its := its1) hh n1 tk) (SrcK.draws (k := l) (its := its2) hh n2 tl)
    exact W.stops s _ _ (by rw [hn1, hn2, ← hlt]; exact ⟨hz, hTI, hTO, ⟨h1, hs1⟩, ⟨h2, hs2⟩⟩) fun h' tk' hk htk => I.turnedL (ch := [z, TI, TO, i1, i2]) (fun b ob hb q => hk b ob (fun m => hb (by
      have : b = z ∨ b = TO ∨ b = i1 ∨ b = i2 := by simpa using m
      rcases this with q | q | q | q <;> simp [q])) q) hf
  self := fun A i s Q E st h => wpAny_pyIter_zip st.1 h
def iZp (K : PySem.W.Frag) (ta tb : TE) : TI := fun σ H R => ta σ H fun x H1 => tb σ H1 fun y H2 => ∃ k l vs ws, SrcK.Is K H2 k x vs ∧ SrcK.Is K H2 l y ws ∧ R (ItZp K k l) H2
theorem pi_zp {X : Cx} {e e2 : Expr} {ta tb : TE} {p pos tpos : Pos} {elts : List Expr} {kk : Nat} (hg : Gl X "zip") (hm : X.mg "zip" = none) (ha : PE X e ta) (hb : PE X e2 tb)
    (hs : starEach [e, e2] X.env = (false, eval e X.env) :: starEach [e2] X.env := by rfl) (hs2 : starEach [e2] X.env = (false, eval e2 X.env) :: starEach [] X.env := by rfl) (hpl : (backTo pos (starEach [e2] X.env)).any (·.1) = false := by rfl) :
    PI X (.Tuple elts kk tpos) (.Call (.Name "zip" p) [e, e2] [] pos) (iZp X.K ta tb) := by
  refine ⟨fun pins s σ H R I h => ?_⟩
  have ha' : PA X [e, e2] (tCons ta (tCons tb tNil)) := pa_cons ha (pa_cons hb pa_nil hs2) hs
  refine Call_ (ld_blt I hg hm PyProof.Rows.boot_zip (PyProof.Rows.callWith_type1 (thn (ha'.run pos pins s σ H (two2 fun x y H2 => ∃ k l vs ws, SrcK.Is X.K H2 k x vs ∧ SrcK.Is X.K H2 l y ws ∧ R (ItZp X.K k l) H2) I h) fun us s1 ⟨vs, H1, I1, r1, q1⟩ => ?_) hs hpl))
  obtain ⟨x, y, ex, k, l, vs', ws', hq1, hq2, q⟩ := two2_inv q1
  subst ex
  obtain ⟨u1, u2, rfl, ru1, ru2⟩ := vals2 r1
  obtain ⟨hhas1, o1, HH1, tk1, B1, hB1, hit1⟩ := SrcK.begins I1 hq1 ru1
  obtain ⟨hhas2, o2, HH2, tk2, B2, hB2, hit2⟩ := SrcK.begins I1 hq2 ru2
  have hlt1 := SrcK.fplt I1 hhas1
  have hlt2 := SrcK.fplt I1 hhas2
  refine zip_begins2 B1 B2 hB1 hB2 fun h' hz hTI hTO ho1 ho2 hsz hk => wpAny_pyIter_zip hz ?_
  have I2 : Inv X pins σ H1 { s1 with heap := h' } := I1.kept (t' := s1.toks) hk
  refine ⟨s1.heap.objs.size + 4, [s1.heap.objs.size + 4, s1.heap.objs.size + 2, s1.heap.objs.size + 3, s1.heap.objs.size, s1.heap.objs.size + 1], _, _, H1, rfl, I2, turn_zp k l tk1 tk2 (s1.heap.objs.size + 4) (s1.heap.objs.size + 2) (s1.heap.objs.size + 3) s1.heap.objs.size (s1.heap.objs.size + 1),
    ⟨hz, hTI, ⟨_, _, hTO⟩, hit1 _ _ ho1, hit2 _ _ ho2, zip_sep2 hlt1 hlt2, fun z => absurd (hlt1 _ z) (Nat.lt_irrefl _), fun z => absurd (hlt2 _ z) (Nat.not_lt.mpr (Nat.le_succ _))⟩, fun b hb => ?_, q⟩
  have e' : b = s1.heap.objs.size + 4 ∨ b = s1.heap.objs.size + 2 ∨ b = s1.heap.objs.size + 3 ∨ b = s1.heap.objs.size ∨ b = s1.heap.objs.size + 1 := by simpa using hb
  have hle : s1.heap.objs.size ≤ b := by
    rcases e' with z | z | z | z | z
    · rw [z]; exact Nat.le_add_right _ _
    · rw [z]; exact Nat.le_add_right _ _
    · rw [z]; exact Nat.le_add_right _ _
    · rw [z]; exact Nat.le_refl _
    · rw [z]; exact Nat.le_add_right _ _
  exact I1.fpOk hle (I1.hok.fresh hle)
/-! ### a list, a tuple, a text itself -/
def ItSr (K : PySem.W.Frag) (k : SrcK) : It := match k with
  | .l a => Itl K a
  | .t a => Itt K a
  | .s z => Its z
def iSr (K : PySem.W.Frag) (ta : TE) : TI := fun σ H R => ta σ H fun x H1 => ∃ k vs, SrcK.Is K H1 k x vs ∧ R (ItSr K k) H1
theorem pi_sr {X : Cx} {tg e : Expr} {ta : TE} (ha : PE X e ta) : PI X tg e (iSr X.K ta) := by
  refine ⟨fun pins s σ H R I h => ?_⟩
  refine thn (ha.run pins s σ H _ I h) fun v s1 ⟨x, H1, I1, r1, k, vs, hq, q⟩ => ?_
  cases k with
  | l a =>
    obtain ⟨e, hq⟩ := hq
    subst e
    cases r1
    obtain ⟨its, rv, p, hz⟩ := I1.list hq
    refine wpAny_pyIter_list p.isList ?_
    refine ⟨s1.heap.objs.size, [s1.heap.objs.size], _, _, H1, rfl, I1.kept (t' := s1.toks) fun b o e => Heap.get?_push_of_some _ e, turn_list a _, ⟨_, Heap.get?_push_size _ rfl, rfl, rfl⟩, fun b hb => ?_, q⟩
    have e : b = s1.heap.objs.size := by simpa using hb
    subst e
    exact I1.fpOk (Nat.le_refl _) (I1.hok.fresh (Nat.le_refl _))
  | t a =>
    obtain ⟨e, hq⟩ := hq
    subst e
    cases r1
    obtain ⟨its, rv, p, hz⟩ := I1.tuple hq
    refine wpAny_pyIter_tuple (show s1.heap.IsTuple a its.toArray from p) ?_
    refine ⟨s1.heap.objs.size, [s1.heap.objs.size], _, _, H1, rfl, I1.kept (t' := s1.toks) fun b o e => Heap.get?_push_of_some _ e, turn_tuple a _, ⟨_, Heap.get?_push_size _ rfl, rfl, rfl⟩, fun b hb => ?_, q⟩
    have e : b = s1.heap.objs.size := by simpa using hb
    subst e
    exact I1.fpOk (Nat.le_refl _) (I1.hok.fresh (Nat.le_refl _))
  | s z =>
    obtain ⟨e, hq⟩ := hq
    subst e
    obtain ⟨t, rfl⟩ := r1
    cases hz : z.cps.all (· < 128)
    · exact wpAny_pyIter_wide hz (pi_one (tk := s1.toks) I1 _ (turn_str _ z t "str_iterator" (.inr rfl)) ⟨_, Heap.get?_push_size _ rfl, rfl, rfl⟩ q)
    · exact wpAny_pyIter_ascii hz (pi_one (tk := s1.toks) I1 _ (turn_str _ z t "str_ascii_iterator" (.inl rfl)) ⟨_, Heap.get?_push_size _ rfl, rfl, rfl⟩ q)
end DL
set_option Elab.async false
set_option linter.all false
set_option maxRecDepth 100000
set_option maxHeartbeats 1000000
/-! canonical readings, targets, iterables -/
namespace DL
open PySem PySem.Spec L2
open PyProof.Rows hiding St

section
variable {X : Cx} {c : Ctx} {W : WX} {Γ : List Md} {a b e e' : Expr} {es rest : List Expr} {k ka kb kc : Kd} {u ua ub uc : Bool} {w wa wb wc : DTE} {va vb : DTA} {vt : DTT} {pos pos' p p2 p3 p4 tpos : Pos} {x y : Str}
/-! ### one reading, whatever the context -/
def canE (K : PySem.W.Frag) (c : Ctx) (W : WX) (Γ : List Md) (k : Kd) (u : Bool) (w : DTE) : TE := fun σ H Q => ∃ ε R E P, Rel K c Γ σ H ε R ∧ ExcOK K c W E ∧ w E ε P ∧
  ∀ d ε' v H' R', P d ε' → Rel K c Γ σ H' ε' R' → Stp u Γ σ ε R H ε' R' H' → Val K Γ σ H ε' R' H' d v k → Q v H'
theorem DE.can (h : DE X c W Γ e k u w) : PE X e (canE X.K c W Γ k u w) := by
  obtain ⟨⟨t, pe, s⟩, m⟩ := h
  exact ⟨fun pins s0 σ H Q I ⟨ε, R, E, P, r, x, p, q⟩ => pe.run pins s0 σ H Q I (s σ H ε R E P Q r x p q)⟩
def canT (K : PySem.W.Frag) (c : Ctx) (W : WX) (Γ : List Md) (u : Bool) (w : DTT) : TT := fun σ H Q => ∃ ε R E P, Rel K c Γ σ H ε R ∧ ExcOK K c W E ∧ w E ε P ∧
  ∀ d ε' H' R', P d ε' → Rel K c Γ σ H' ε' R' → Stp u Γ σ ε R H ε' R' H' → Q d H'
theorem DT.can (h : DT X c W Γ e u vt) : PT X e (canT X.K c W Γ u vt) := by
  obtain ⟨⟨t, pe, s⟩, m⟩ := h
  exact ⟨fun pins s0 σ H Q I ⟨ε, R, E, P, r, x, p, q⟩ => pe.run pins s0 σ H Q I (s σ H ε R E P Q r x p q)⟩
/-- the tests of a block: none or one -/
structure DTs (X : Cx) (c : Ctx) (W : WX) (Γ : List Md) (ifs : List Expr) (u : Bool) (w : DTT) : Prop where
  run : PTs X ifs (canT X.K c W Γ u w)
  mono : ∀ E ε P P', (∀ d ε', P d ε' → P' d ε') → w E ε P → w E ε P'
def wYes : DTT := fun _ ε P => P true ε
theorem dts_nil : DTs X c W Γ [] false wYes := ⟨⟨fun pins s0 σ H Q I ⟨ε, R, E, P, r, x, p, q⟩ => pts_nil.run pins s0 σ H Q I (q true ε H R p r Stp.refl)⟩, fun _ _ _ _ h p => h _ _ p⟩
theorem dts_one (h : DT X c W Γ e u vt) : DTs X c W Γ [e] u vt := ⟨pts_one h.can, h.mono⟩
/-! ### targets -/
abbrev DTG := D → DEnv → (DEnv → Prop) → Prop
abbrev DTGs := List D → DEnv → (DEnv → Prop) → Prop
structure Off (is : List Nat) (σ σ' : St) (ε ε' : DEnv) : Prop where
  l : σ'.length = σ.length
  s : ∀ j, j ∉ is → σ'[j]? = σ[j]?
  e : ∀ j, j ∉ is → sl ε' j = sl ε j
theorem Off.refl {is : List Nat} {σ : St} {ε : DEnv} : Off is σ σ ε ε := ⟨rfl, fun _ _ => rfl, fun _ _ => rfl⟩
theorem Off.trans {is js : List Nat} {σ σ1 σ2 : St} {ε ε1 ε2 : DEnv} (h : Off is σ σ1 ε ε1) (g : Off js σ1 σ2 ε1 ε2) : Off (is ++ js) σ σ2 ε ε2 :=
  ⟨g.l.trans h.l, fun j n => (g.s j fun z => n (List.mem_append_right _ z)).trans (h.s j fun z => n (List.mem_append_left _ z)), fun j n => (g.e j fun z => n (List.mem_append_right _ z)).trans (h.e j fun z => n (List.mem_append_left _ z))⟩
def canG (K : PySem.W.Frag) (c : Ctx) (Γ : List Md) (is : List Nat) (w : DTG) : TG := fun v σ H Q => ∃ ε R d P, Rel K c Γ σ H ε R ∧ At K R d v ∧ w d ε P ∧
  ∀ ε' σ', P ε' → Rel K c Γ σ' H ε' R → Off is σ σ' ε ε' → Q σ' H
def canGs (K : PySem.W.Frag) (c : Ctx) (Γ : List Md) (is : List Nat) (w : DTGs) : TGs := fun vs σ H Q => ∃ ε R ds P, Rel K c Γ σ H ε R ∧ AtL K R ds vs ∧ w ds ε P ∧
  ∀ ε' σ', P ε' → Rel K c Γ σ' H ε' R → Off is σ σ' ε ε' → Q σ' H
structure DG (X : Cx) (c : Ctx) (Γ : List Md) (tg : Expr) (is : List Nat) (w : DTG) : Prop where
  run : PG X tg (canG X.K c Γ is w)
  mono : ∀ d ε P P', (∀ ε', P ε' → P' ε') → w d ε P → w d ε P'
  sh : ∀ i ∈ is, md Γ i = .sh
structure DGs (X : Cx) (c : Ctx) (Γ : List Md) (tgs : List Expr) (is : List Nat) (w : DTGs) : Prop where
  run : PGs X tgs (canGs X.K c Γ is w)
  mono : ∀ d ε P P', (∀ ε', P ε' → P' ε') → w d ε P → w d ε P'
  sh : ∀ i ∈ is, md Γ i = .sh
theorem Rel.set {K : PySem.W.Frag} {σ : St} {H R : Hp} {ε : DEnv} {d : D} {v : V} {i : Nat} (r : Rel K c Γ σ H ε R) (hm : md Γ i = .sh) (h : At K R d v) : Rel K c Γ (σ.set i (some v)) H (ε.set i (some d)) R ∧ Off [i] σ (σ.set i (some v)) ε (ε.set i (some d)) := by
  by_cases hlt : i < ε.length
  · have hσ : i < σ.length := by rw [r.len]; exact hlt
    have gσ : ∀ j, (σ.set i (some v))[j]? = if i = j then some (some v) else σ[j]? := fun j => by
      rw [List.getElem?_set]
      by_cases e : i = j
      · subst e; rw [if_pos rfl, if_pos rfl, if_pos hσ]
      · rw [if_neg e, if_neg e]
    have own : ∀ j a, OwnAt Γ (σ.set i (some v)) (ε.set i (some d)) j a ↔ OwnAt Γ σ ε j a := fun j a => by
      unfold OwnAt
      rw [sl_set hlt, gσ j]
      by_cases e : i = j
      · subst e
        constructor
        · intro z; exact absurd hm z.1
        · intro z; exact absurd hm z.1
      · rw [if_neg e, if_neg e]
    refine ⟨⟨by rw [List.length_set, List.length_set]; exact r.len, fun j d' h' m => ?_, fun j ds h' m => ?_, fun j l a h1 h2 => r.sep j l a ((own j a).mp h1) ((own l a).mp h2), fun p hp => ?_, r.iox, r.sub, r.r0, r.e1, r.e2, r.dom⟩, by rw [List.length_set], fun j n => ?_, fun j n => ?_⟩
    · rw [sl_set hlt] at h'
      rw [gσ j]
      by_cases e : i = j
      · subst e
        rw [if_pos rfl] at h' ⊢
        injection h' with h'
        subst h'
        exact ⟨v, rfl, h⟩
      · rw [if_neg e] at h' ⊢
        exact r.pure j d' h' m
    · rw [sl_set hlt] at h'
      rw [gσ j]
      by_cases e : i = j
      · subst e; exact absurd hm m
      · rw [if_neg e] at h' ⊢
        exact r.own j ds h' m
    · obtain ⟨z1, z2⟩ := r.io p hp
      exact ⟨z1, (own 0 p).mpr z2⟩
    · rw [gσ j, if_neg (fun z => n (by rw [z]; exact List.mem_singleton.mpr rfl))]
    · rw [sl_set hlt, if_neg (fun z => n (by rw [z]; exact List.mem_singleton.mpr rfl))]
  · have hσ : σ.length ≤ i := by rw [r.len]; exact Nat.le_of_not_lt hlt
    rw [List.set_eq_of_length_le hσ, List.set_eq_of_length_le (Nat.le_of_not_lt hlt)]
    exact ⟨r, Off.refl⟩
def wGn (i : Nat) : DTG := fun d ε P => P (ε.set i (some d))
theorem dg_name (i : Nat) (hN : X.N.Nodup) (hi : X.N[i]? = some x := by rfl) (hm : md Γ i = .sh := by rfl) (hx : Loc X.env.scope x := by first | exact Or.inl rfl | exact Or.inr rfl) (hf : X.fn x = true ∨ X.env.scope.names.lookup x = some .local := by first | exact .inl rfl | exact .inr rfl) : DG X c Γ (.Name x pos) [i] (wGn i) := by
  refine ⟨⟨fun pins s0 σ H v u' Q I rv ⟨ε, R, d, P, r, hv, p, q⟩ => (pg_name hN hi hx hf).run pins s0 σ H v u' Q I rv ?_⟩, fun _ _ _ _ h p => h _ p, fun j hj => by rw [List.mem_singleton.mp hj]; exact hm⟩
  obtain ⟨r2, o2⟩ := r.set hm hv
  exact q _ _ p r2 o2
def wGnil : DTGs := fun ds ε P => match ds with
  | [] => P ε
  | _ :: _ => False
def wGcons (w : DTG) (ws : DTGs) : DTGs := fun ds ε P => match ds with
  | d :: r => w d ε fun ε1 => ws r ε1 P
  | [] => False
theorem dgs_nil : DGs X c Γ [] [] wGnil := by
  refine ⟨⟨fun pins s0 σ H vs us Q I rv ⟨ε, R, ds, P, r, hv, p, q⟩ => ?_⟩, fun ds _ _ _ h p => ?_, fun _ h => (nomatch h)⟩
  · cases ds with
    | nil =>
      have := hv.inv0
      subst this
      exact pgs_nil.run pins s0 σ H [] us Q I rv ⟨rfl, q ε σ p r Off.refl⟩
    | cons d r => exact (p : False).elim
  · cases ds with
    | nil => exact h _ p
    | cons d r => exact (p : False).elim
theorem dgs_cons {is js : List Nat} {w : DTG} {ws : DTGs} (h1 : DG X c Γ e is w) (h2 : DGs X c Γ es js ws)
    (hs : (assignEach (e :: es) X.env).map (·.2) = assign e X.env :: (assignEach es X.env).map (·.2) := by rfl) : DGs X c Γ (e :: es) (is ++ js) (wGcons w ws) := by
  refine ⟨⟨fun pins s0 σ H vs us Q I rv ⟨ε, R, ds, P, r, hv, p, q⟩ => ?_⟩, fun ds _ _ _ h p => ?_, fun i hi => ?_⟩
  · cases ds with
    | nil => exact (p : False).elim
    | cons d ds =>
      obtain ⟨v, ws', e1, hd, hl⟩ := hv.inv
      subst e1
      refine (pgs_cons h1.run h2.run hs).run pins s0 σ H _ us Q I rv ⟨v, ws', rfl, ε, R, d, _, r, hd, p, fun ε1 σ1 p1 r1 o1 => ?_⟩
      exact ⟨ε1, R, ds, P, r1, hl, p1, fun ε2 σ2 p2 r2 o2 => q ε2 σ2 p2 r2 (o1.trans o2)⟩
  · cases ds with
    | nil => exact (p : False).elim
    | cons d r => exact h1.mono _ _ _ _ (fun _ q => h2.mono _ _ _ _ h q) p
  · rcases List.mem_append.mp hi with z | z
    · exact h1.sh i z
    · exact h2.sh i z
def wGtup (n : Nat) (ws : DTGs) : DTG := fun d ε P => match d with
  | .tup ds => ds.length = n ∧ ws ds ε P
  | _ => False
theorem wGtup_inv {n : Nat} {ws : DTGs} {d : D} {ε : DEnv} {P : DEnv → Prop} (h : wGtup n ws d ε P) : ∃ ds, d = .tup ds ∧ ds.length = n ∧ ws ds ε P := by
  cases d with
  | tup ds => exact ⟨ds, rfl, h.1, h.2⟩
  | _ => exact (h : False).elim
theorem dg_tup {is : List Nat} {ws : DTGs} {n k : Nat} (hc : X.calm = true) (h : DGs X c Γ es is ws) (hn : (assignEach es X.env).length = n := by rfl) (hst : (assignEach es X.env).findIdx? (·.1) = none := by rfl) : DG X c Γ (.Tuple es k pos) is (wGtup n ws) := by
  refine ⟨⟨fun pins s0 σ H v us Q I rv ⟨ε, R, d, P, r, hv, p, q⟩ => ?_⟩, fun d ε P P' h' p => ?_, h.sh⟩
  · obtain ⟨ds, e, hl, p1⟩ := wGtup_inv p
    subst e
    unfold At at hv
    obtain ⟨a, vs, e1, h1, l1⟩ := hv
    subst e1
    exact (pg_tup hc h.run hn hst).run pins s0 σ H _ us Q I rv ⟨a, vs, rfl, SqT.same r.sub h1, by rw [← l1.len]; exact hl, ε, R, ds, P, r, l1, p1, q⟩
  · obtain ⟨ds, e, hl, p1⟩ := wGtup_inv p
    subst e
    exact ⟨hl, h.mono _ _ _ _ h' p1⟩
/-! ### what is gone through -/
/-- a walk over the data ds; k tells what it rests on: objects given out of hand (pu), the heap as it stands (rd) -/
def Wk (K : PySem.W.Frag) (J : It) (R H : Hp) (k : Kd) (ds : List D) : Prop := ∃ G Y, Walk J ds.length G Y ∧ (∀ R' H', Same R R' → Same R' H' → (k = .rd → Same H H') → G H') ∧
  ∀ i H1 R1 x H2, i < ds.length → Same R R1 → Same R1 H1 → (k = .rd → Same H H1) → Y i H1 x H2 → ∃ R2 d, ds[i]? = some d ∧ Gw R1 H1 R2 H2 ∧ At K R2 d x
structure DI (X : Cx) (c : Ctx) (W : WX) (Γ : List Md) (tg e : Expr) (k : Kd) (u : Bool) (w : DTA) : Prop where
  run : ∃ wi, PI X tg e wi ∧ ∀ σ H ε R E P Q, Rel X.K c Γ σ H ε R → ExcOK X.K c W E → w E ε P →
    (∀ ds ε' H' R' J, P ds ε' → Rel X.K c Γ σ H' ε' R' → Stp u Γ σ ε R H ε' R' H' → Wk X.K J R' H' k ds → Q J H') → wi σ H Q
  mono : ∀ E ε P P', (∀ d ε', P d ε' → P' d ε') → w E ε P → w E ε P'
/-- the items of what stands there -/
def itD : D → Option (List D)
  | .lst ds => some ds
  | .tup ds => some ds
  | .frz ds => some ds
  | .str z => some (z.cps.toList.map fun c => .str ⟨#[c]⟩)
  | _ => none
theorem AtL.strs {K : PySem.W.Frag} {R : Hp} : ∀ cs : List Nat, AtL K R (cs.map fun c => .str ⟨#[c]⟩) (cs.map fun c => .str ⟨#[c]⟩)
  | [] => AtL.nil
  | c :: cs => AtL.cons at_str (AtL.strs cs)
theorem SrcK.is_has {K : PySem.W.Frag} {H : Hp} {k : SrcK} {v : V} {vs : List V} (h : k.Is K H v vs) : k.has K H vs := by
  cases k with
  | l a => exact h.2
  | t a => exact h.2
  | s z => exact h.2
/-- the value's items, at hand while the region stands (pu) or the heap (rd) -/
theorem src_of {K : PySem.W.Frag} {R H : Hp} {d : D} {v : V} {ds : List D} (s : Same R H) (h1 : k = .pu → At K R d v) (h2 : Rdv K R H d v) (e : itD d = some ds) (hk : k ≠ .fr) :
    ∃ sk vs, SrcK.Is K H sk v vs ∧ AtL K R ds vs ∧ ∀ R' H', Same R R' → Same R' H' → (k = .rd → Same H H') → SrcK.has K H' sk vs := by
  have at_ : At K R d v → ∃ sk vs, SrcK.Is K H sk v vs ∧ AtL K R ds vs ∧ ∀ R' H', Same R R' → Same R' H' → (k = .rd → Same H H') → SrcK.has K H' sk vs := fun h => by
    cases d with
    | lst es =>
      injection e with e; subst e
      unfold At at h
      obtain ⟨a, vs, e1, h1, l1⟩ := h
      exact ⟨.l a, vs, ⟨e1, .inl (.inl (s _ _ h1))⟩, l1, fun R' H' a1 a2 _ => .inl (.inl (a2 _ _ (a1 _ _ h1)))⟩
    | tup es =>
      injection e with e; subst e
      unfold At at h
      obtain ⟨a, vs, e1, h1, l1⟩ := h
      exact ⟨.t a, vs, ⟨e1, SqT.same s h1⟩, l1, fun R' H' a1 a2 _ => SqT.same (a1.trans a2) h1⟩
    | frz es =>
      injection e with e; subst e
      unfold At at h
      obtain ⟨a, vs, e1, h1, l1⟩ := h
      exact ⟨.l a, vs, ⟨e1, s.seq h1⟩, l1, fun R' H' a1 a2 _ => (a1.trans a2).seq h1⟩
    | str z =>
      injection e with e; subst e
      unfold At at h
      subst h
      exact ⟨.s z, _, ⟨rfl, rfl⟩, AtL.strs _, fun R' H' a1 a2 _ => rfl⟩
    | _ => cases e
  rcases h2 with h2 | ⟨es, p, vs, e1, e2, e3, e4⟩
  · exact at_ h2
  · cases k with
    | pu => exact at_ (h1 rfl)
    | fr => exact absurd rfl hk
    | rd =>
      subst e1 e2
      injection e with e; subst e
      exact ⟨.l p, vs, ⟨rfl, .inl (.inl e3)⟩, e4, fun R' H' a1 a2 a3 => .inl (.inl (a3 rfl _ _ e3))⟩
theorem walk_sr {K : PySem.W.Frag} {sk : SrcK} {vs : List V} (h : ∀ z, sk = .s z → vs = z.cps.toList.map fun c => .str ⟨#[c]⟩) : Walk (ItSr K sk) vs.length (fun H => sk.has K H vs) (YAt vs) := by
  cases sk with
  | l a => exact walk_list
  | t a => exact walk_tup
  | s z =>
    have e := h z rfl
    subst e
    have w := walk_str (z := z)
    have hl : (z.cps.toList.map fun c => V.str ⟨#[c]⟩).length = z.cps.size := by simp
    rw [hl]
    refine w.mono (fun _ _ => trivial) fun i H x H' hi _ y => ?_
    obtain ⟨e1, c, hc, e2⟩ := y
    subst e2
    exact ⟨e1, by simp [hc]⟩
theorem walk_en {K : PySem.W.Frag} {sk : SrcK} {vs : List V} : Walk (ItEn K sk) vs.length (fun H => sk.has K H vs) (YPair (fun i => some (.int (i : Nat))) fun i => vs[i]?) :=
  ⟨fun _ _ hi q => ⟨vs, q, hi⟩, fun _ q => ⟨vs, q, rfl⟩, fun i H v H' _ q y => by
    obtain ⟨T, x, h1, h2, h3, h4⟩ := y
    exact ⟨T, .int (i : Nat), x, h1, h2, h3, rfl, h4 vs q⟩⟩
theorem walk_zp {K : PySem.W.Frag} {k l : SrcK} {vs ws : List V} : Walk (ItZp K k l) (min vs.length ws.length) (fun H => k.has K H vs ∧ l.has K H ws) (YPair (fun i => vs[i]?) fun i => ws[i]?) :=
  ⟨fun _ _ hi q => ⟨vs, ws, q.1, q.2, by omega, by omega⟩, fun _ q => ⟨vs, ws, q.1, q.2, rfl⟩, fun i H v H' _ q y => by
    obtain ⟨T, x, z, h1, h2, h3, h4, h5⟩ := y
    exact ⟨T, x, z, h1, h2, h3, h4 vs q.1, h5 ws q.2⟩⟩
def enD : Nat → List D → List D
  | _, [] => []
  | i, d :: ds => .tup [.int i, d] :: enD (i + 1) ds
theorem enD_len : ∀ (i : Nat) (ds : List D), (enD i ds).length = ds.length
  | _, [] => rfl
  | i, d :: ds => by show (enD (i + 1) ds).length + 1 = ds.length + 1; rw [enD_len (i + 1) ds]
theorem enD_get : ∀ (j : Nat) (ds : List D) (i : Nat) (d : D), ds[i]? = some d → (enD j ds)[i]? = some (.tup [.int ((j + i : Nat)), d])
  | j, [], i, d, h => by simp at h
  | j, e :: ds, 0, d, h => by
    simp at h; subst h; rfl
  | j, e :: ds, i + 1, d, h => by
    have := enD_get (j + 1) ds i d (by simpa using h)
    show (enD (j + 1) ds)[i]? = _
    rw [this, show j + 1 + i = j + (i + 1) by omega]
def zpD : List D → List D → List D
  | d :: ds, e :: es => .tup [d, e] :: zpD ds es
  | _, _ => []
theorem zpD_len : ∀ (ds es : List D), (zpD ds es).length = min ds.length es.length
  | [], es => by simp [zpD]
  | d :: ds, [] => by simp [zpD]
  | d :: ds, e :: es => by
    show (zpD ds es).length + 1 = _
    rw [zpD_len ds es, List.length_cons, List.length_cons]; omega
theorem zpD_get : ∀ (ds es : List D) (i : Nat) (d e : D), ds[i]? = some d → es[i]? = some e → (zpD ds es)[i]? = some (.tup [d, e])
  | [], _, _, _, _, h, _ => by simp at h
  | _ :: _, [], _, _, _, _, h => by simp at h
  | a :: ds, b :: es, 0, d, e, h, h' => by
    simp at h h'; subst h h'; rfl
  | a :: ds, b :: es, i + 1, d, e, h, h' => zpD_get ds es i d e (by simpa using h) (by simpa using h')
def rgD (lo : Int) (n : Nat) : List D := (List.range n).map fun i => .int (lo + (i : Nat))
/-- one new pair -/
theorem pair_new {K : PySem.W.Frag} {R1 H1 : Hp} {T : Addr} {d e : D} {v w : V} (s : Same R1 H1) (n : H1 T = none) (h1 : At K R1 d v) (h2 : At K R1 e w) : Gw R1 H1 (upd R1 T (.tup [v, w])) (upd H1 T (.tup [v, w])) ∧ At K (upd R1 T (.tup [v, w])) (.tup [d, e]) (.ref T) :=
  ⟨Gw.new s n, at_new s n (AtL.cons h1 (AtL.cons h2 AtL.nil))⟩
theorem wk_sr {K : PySem.W.Frag} {R H : Hp} {d : D} {v : V} {ds : List D} {sk : SrcK} {vs : List V} (h0 : SrcK.Is K H sk v vs) (l : AtL K R ds vs) (hh : ∀ R' H', Same R R' → Same R' H' → (k = .rd → Same H H') → SrcK.has K H' sk vs) : Wk K (ItSr K sk) R H k ds := by
  have w : Walk (ItSr K sk) vs.length (fun H => sk.has K H vs) (YAt vs) := walk_sr fun z e => by subst e; exact h0.2
  rw [← l.len] at w
  refine ⟨_, _, w, hh, fun i H1 R1 x H2 hi a1 a2 a3 y => ?_⟩
  obtain ⟨e1, hx⟩ := y
  subst e1
  obtain ⟨d, hd, hv⟩ := l.getV hx
  exact ⟨R1, d, hd, Gw.refl a2, At.mono a1 d x hv⟩
theorem wk_en {K : PySem.W.Frag} {R H : Hp} {v : V} {ds : List D} {sk : SrcK} {vs : List V} (l : AtL K R ds vs) (hh : ∀ R' H', Same R R' → Same R' H' → (k = .rd → Same H H') → SrcK.has K H' sk vs) : Wk K (ItEn K sk) R H k (enD 0 ds) := by
  have w : Walk (ItEn K sk) vs.length _ _ := walk_en (K := K) (sk := sk) (vs := vs)
  rw [← l.len, ← enD_len 0 ds] at w
  refine ⟨_, _, w, hh, fun i H1 R1 x H2 hi a1 a2 a3 y => ?_⟩
  obtain ⟨T, x1, x2, e1, h1, e2, f1, f2⟩ := y
  subst e1 e2
  obtain ⟨d, hd, hv⟩ := l.getV f2
  have e3 : x1 = .int (i : Nat) := by injection f1 with f1; exact f1.symm
  subst e3
  obtain ⟨g, ha⟩ := pair_new (d := .int (i : Nat)) (e := d) a2 h1 at_int (At.mono a1 d x2 hv)
  exact ⟨_, _, by have := enD_get 0 ds i d hd; rwa [Nat.zero_add] at this, g, ha⟩
theorem wk_zp {K : PySem.W.Frag} {R H : Hp} {ds es : List D} {sk sl : SrcK} {vs ws : List V} (l : AtL K R ds vs) (l' : AtL K R es ws) (hh : ∀ R' H', Same R R' → Same R' H' → (k = .rd → Same H H') → SrcK.has K H' sk vs)
    (hh' : ∀ R' H', Same R R' → Same R' H' → (k = .rd → Same H H') → SrcK.has K H' sl ws) : Wk K (ItZp K sk sl) R H k (zpD ds es) := by
  have w : Walk (ItZp K sk sl) (min vs.length ws.length) _ _ := walk_zp (K := K) (k := sk) (l := sl) (vs := vs) (ws := ws)
  rw [← l.len, ← l'.len, ← zpD_len ds es] at w
  refine ⟨_, _, w, fun R' H' a1 a2 a3 => ⟨hh R' H' a1 a2 a3, hh' R' H' a1 a2 a3⟩, fun i H1 R1 x H2 hi a1 a2 a3 y => ?_⟩
  obtain ⟨T, x1, x2, e1, h1, e2, f1, f2⟩ := y
  subst e1 e2
  obtain ⟨d, hd, hv⟩ := l.getV f1
  obtain ⟨e, he, hv'⟩ := l'.getV f2
  obtain ⟨g, ha⟩ := pair_new (d := d) (e := e) a2 h1 (At.mono a1 d x1 hv) (At.mono a1 e x2 hv')
  exact ⟨_, _, zpD_get ds es i d e hd he, g, ha⟩
theorem wk_rg {K : PySem.W.Frag} {R H : Hp} {lo : Int} {n : Nat} : Wk K (Itr lo n) R H .pu (rgD lo n) := by
  have w := walk_range (lo := lo) (n := n)
  have hl : (rgD lo n).length = n := by unfold rgD; simp
  refine ⟨fun _ => True, _, by rw [hl]; exact w, fun _ _ _ _ _ => trivial, fun i H1 R1 x H2 hi a1 a2 a3 y => ?_⟩
  obtain ⟨e1, e2⟩ := y
  subst e1 e2
  rw [hl] at hi
  exact ⟨R1, .int (lo + i), by unfold rgD; simp [hi], Gw.refl a2, at_int⟩
/-! ### the iterables -/
def wSr (w : DTE) : DTA := fun E ε P => w E ε fun d ε1 => onS (itD d) fun ds => P ds ε1
theorem val_src {σ : St} {Hs H R : Hp} {ε : DEnv} {d : D} {v : V} (h : Val X.K Γ σ Hs ε R H d v k) : k = .pu → At X.K R d v := fun e => by subst e; exact h
theorem di_sr {tg : Expr} (ha : DE X c W Γ a k u w) (hk : k ≠ .fr := by decide) : DI X c W Γ tg a k u (wSr w) := by
  obtain ⟨⟨ta, pa, sa⟩, ma⟩ := ha
  refine ⟨⟨_, pi_sr pa, fun σ H ε R E P Q r x p q => ?_⟩, fun E ε P P' h p => ma _ _ _ _ (fun _ _ q => onS_mono (fun _ q => h _ _ q) q) p⟩
  refine sa σ H ε R E _ _ r x p fun d ε1 v H1 R1 p1 r1 s1 v1 => ?_
  obtain ⟨ds, hd, p1⟩ := onS_inv p1
  obtain ⟨sk, vs, h0, l, hh⟩ := src_of (k := k) r1.sub (val_src v1) v1.rdv hd hk
  exact ⟨sk, vs, h0, q ds ε1 H1 R1 _ p1 r1 s1 (wk_sr (d := d) h0 l hh)⟩
def wEn (w : DTE) : DTA := fun E ε P => w E ε fun d ε1 => onS (itD d) fun ds => P (enD 0 ds) ε1
theorem di_en {elts : List Expr} {kk : Nat} (hm : X.mg "enumerate" = none) (ha : DE X c W Γ a k u w) (hg : Gl X "enumerate" := by rfl) (hk : k ≠ .fr := by decide) (hs : starEach [a] X.env = [(false, eval a X.env)] := by rfl) : DI X c W Γ (.Tuple elts kk tpos) (.Call (.Name "enumerate" p) [a] [] pos) k u (wEn w) := by
  obtain ⟨⟨ta, pa, sa⟩, ma⟩ := ha
  refine ⟨⟨_, pi_en hg hm pa hs, fun σ H ε R E P Q r x p q => ?_⟩, fun E ε P P' h p => ma _ _ _ _ (fun _ _ q => onS_mono (fun _ q => h _ _ q) q) p⟩
  refine sa σ H ε R E _ _ r x p fun d ε1 v H1 R1 p1 r1 s1 v1 => ?_
  obtain ⟨ds, hd, p1⟩ := onS_inv p1
  obtain ⟨sk, vs, h0, l, hh⟩ := src_of (k := k) r1.sub (val_src v1) v1.rdv hd hk
  exact ⟨sk, vs, h0, q _ ε1 H1 R1 _ p1 r1 s1 (wk_en (v := v) l hh)⟩
def wZp (wa wb : DTE) : DTA := fun E ε P => wa E ε fun d ε1 => wb E ε1 fun e ε2 => onS (itD d) fun ds => onS (itD e) fun es => P (zpD ds es) ε2
/-- both of the same kind (a name: de_var is a de_varR) -/
theorem di_zp {elts : List Expr} {kk : Nat} (hm : X.mg "zip" = none) (ha : DE X c W Γ a k ua wa) (hb : DE X c W Γ b k ub wb) (hg : Gl X "zip" := by rfl) (hk : k ≠ .fr := by decide) (hk2 : k = .rd → ub = false := by decide)
    (hs : starEach [a, b] X.env = (false, eval a X.env) :: starEach [b] X.env := by rfl) (hs2 : starEach [b] X.env = (false, eval b X.env) :: starEach [] X.env := by rfl) (hpl : (backTo pos (starEach [b] X.env)).any (·.1) = false := by rfl) :
    DI X c W Γ (.Tuple elts kk tpos) (.Call (.Name "zip" p) [a, b] [] pos) k (ua || ub) (wZp wa wb) := by
  obtain ⟨⟨ta, pa, sa⟩, ma⟩ := ha
  obtain ⟨⟨tb, pb, sb⟩, mb⟩ := hb
  refine ⟨⟨_, pi_zp hg hm pa pb hs hs2 hpl, fun σ H ε R E P Q r x p q => ?_⟩, fun E ε P P' h p => ma _ _ _ _ (fun _ _ q => mb _ _ _ _ (fun _ _ q => onS_mono (fun _ q => onS_mono (fun _ q => h _ _ q) q) q) q) p⟩
  refine sa σ H ε R E _ _ r x p fun d ε1 v H1 R1 p1 r1 s1 v1 => ?_
  refine sb σ H1 ε1 R1 E _ _ r1 x p1 fun e ε2 v' H2 R2 p2 r2 s2 v2 => ?_
  obtain ⟨ds, hd, p2⟩ := onS_inv p2
  obtain ⟨es, he, p2⟩ := onS_inv p2
  obtain ⟨sk, vs, h0, l, hh⟩ := src_of (k := k) r2.sub (fun e => At.mono s2.r d v (val_src v1 e)) (v1.rdv_on s2 hk2) hd hk
  obtain ⟨sk', vs', h0', l', hh'⟩ := src_of (k := k) r2.sub (val_src v2) v2.rdv he hk
  exact ⟨sk, sk', vs, vs', h0, h0', q _ ε2 H2 R2 _ p2 r2 (s1.trans s2) (wk_zp l l' hh hh')⟩
def in62 (i : Int) : Prop := -(2 ^ 62) ≤ i ∧ i < 2 ^ 62
def wRg1 (w : DTE) : DTA := fun E ε P => w E ε fun d ε1 => onS (asI d) fun j => in62 j ∧ P (rgD 0 j.toNat) ε1
theorem di_range1 {tg : Expr} (hm : X.mg "range" = none) (ha : DE X c W Γ a k u w) (hg : Gl X "range" := by rfl) (hs : starEach [a] X.env = [(false, eval a X.env)] := by rfl) : DI X c W Γ tg (.Call (.Name "range" p) [a] [] pos) .pu u (wRg1 w) := by
  obtain ⟨⟨ta, pa, sa⟩, ma⟩ := ha
  refine ⟨⟨_, pi_range1 hg hm (pa_cons pa pa_nil hs) hs, fun σ H ε R E P Q r x p q => ?_⟩, fun E ε P P' h p => ma _ _ _ _ (fun _ _ q => onS_mono (fun _ q => ⟨q.1, h _ _ q.2⟩) q) p⟩
  refine sa σ H ε R E _ _ r x p fun d ε1 v H1 R1 p1 r1 s1 v1 => ?_
  obtain ⟨j, hj, p1⟩ := onS_inv p1
  have := asI_inv hj
  subst this
  exact ⟨j, by rw [v1.rdv.int], p1.1.1, p1.1.2, q _ ε1 H1 R1 _ p1.2 r1 s1 wk_rg⟩
def wRg2 (wa wb : DTE) : DTA := fun E ε P => wa E ε fun d ε1 => wb E ε1 fun e ε2 => onS (asI d) fun i => onS (asI e) fun j => in62 i ∧ in62 j ∧ P (rgD i (j - i).toNat) ε2
theorem di_range2 {tg : Expr} (hm : X.mg "range" = none) (ha : DE X c W Γ a ka ua wa) (hb : DE X c W Γ b kb ub wb) (hg : Gl X "range" := by rfl) (hk : ka = .rd → ub = false := by decide) (hs : starEach [a, b] X.env = [(false, eval a X.env), (false, eval b X.env)] := by rfl) (hs2 : starEach [b] X.env = [(false, eval b X.env)] := by rfl) :
    DI X c W Γ tg (.Call (.Name "range" p) [a, b] [] pos) .pu (ua || ub) (wRg2 wa wb) := by
  obtain ⟨⟨ta, pa, sa⟩, ma⟩ := ha
  obtain ⟨⟨tb, pb, sb⟩, mb⟩ := hb
  refine ⟨⟨_, pi_range2 hg hm (pa_cons pa (pa_cons pb pa_nil hs2) (by rw [hs, hs2])) hs hs2, fun σ H ε R E P Q r x p q => ?_⟩, fun E ε P P' h p => ma _ _ _ _ (fun _ _ q => mb _ _ _ _ (fun _ _ q => onS_mono (fun _ q => onS_mono (fun _ q => ⟨q.1, q.2.1, h _ _ q.2.2⟩) q) q) q) p⟩
  refine sa σ H ε R E _ _ r x p fun d ε1 v H1 R1 p1 r1 s1 v1 => ?_
  refine sb σ H1 ε1 R1 E _ _ r1 x p1 fun e ε2 v' H2 R2 p2 r2 s2 v2 => ?_
  obtain ⟨i, hi, p2⟩ := onS_inv p2
  obtain ⟨j, hj, p2⟩ := onS_inv p2
  have := asI_inv hi
  subst this
  have := asI_inv hj
  subst this
  have e1 := (v1.rdv_on s2 hk).int
  have e2 := v2.rdv.int
  exact ⟨i, j, by rw [e1, e2], ⟨p2.1.1, p2.1.2, p2.2.1.1, p2.2.1.2⟩, q _ ε2 H2 R2 _ p2.2.2 r2 (s1.trans s2) wk_rg⟩
end
end DL
set_option Elab.async false
set_option linter.all false
set_option maxRecDepth 100000
set_option maxHeartbeats 1000000
/-! list comprehensions -/
namespace DL
open PySem PySem.Spec L2
open PyProof.Rows hiding St

/-- the slots vs forgotten; taken from ε0 again -/
def wipeE (ε : DEnv) : List Nat → DEnv
  | [] => ε
  | v :: vs => (wipeE ε vs).set v none
def restE (ε0 ε : DEnv) : List Nat → DEnv
  | [] => ε
  | v :: vs => (restE ε0 ε vs).set v (sl ε0 v)
theorem wipeE_len (ε : DEnv) : ∀ vs : List Nat, (wipeE ε vs).length = ε.length
  | [] => rfl
  | v :: vs => by unfold wipeE; rw [List.length_set, wipeE_len ε vs]
theorem restE_len (ε0 ε : DEnv) : ∀ vs : List Nat, (restE ε0 ε vs).length = ε.length
  | [] => rfl
  | v :: vs => by unfold restE; rw [List.length_set, restE_len ε0 ε vs]
theorem sl_out {ε : DEnv} {i : Nat} (h : ε.length ≤ i) : sl ε i = none := by
  show (ε[i]?).getD none = none
  rw [List.getElem?_eq_none h]; rfl
theorem sl_set2 {ε : DEnv} {i j : Nat} {o : Option D} (ne : i ≠ j) : sl (ε.set i o) j = sl ε j := by
  show ((ε.set i o)[j]?).getD none = _
  rw [List.getElem?_set, if_neg ne]; rfl
theorem sl_wipe (ε : DEnv) (i : Nat) : ∀ vs : List Nat, (i ∈ vs → sl (wipeE ε vs) i = none) ∧ (i ∉ vs → sl (wipeE ε vs) i = sl ε i)
  | [] => ⟨fun h => (nomatch h), fun _ => rfl⟩
  | v :: vs => by
    obtain ⟨h1, h2⟩ := sl_wipe ε i vs
    unfold wipeE
    by_cases e : v = i
    · subst e
      refine ⟨fun _ => ?_, fun n => absurd (List.mem_cons_self ..) n⟩
      by_cases hl : v < (wipeE ε vs).length
      · rw [sl_set hl, if_pos rfl]
      · exact sl_out (by rw [List.length_set]; exact Nat.le_of_not_lt hl)
    · rw [sl_set2 e]
      refine ⟨fun m => ?_, fun m => h2 fun z => m (List.mem_cons_of_mem _ z)⟩
      rcases List.mem_cons.mp m with z | z
      · exact absurd z.symm e
      · exact h1 z
theorem sl_rest (ε0 ε : DEnv) (hl : ε0.length = ε.length) (i : Nat) : ∀ vs : List Nat, (i ∈ vs → sl (restE ε0 ε vs) i = sl ε0 i) ∧ (i ∉ vs → sl (restE ε0 ε vs) i = sl ε i)
  | [] => ⟨fun h => (nomatch h), fun _ => rfl⟩
  | v :: vs => by
    obtain ⟨h1, h2⟩ := sl_rest ε0 ε hl i vs
    unfold restE
    by_cases e : v = i
    · subst e
      refine ⟨fun _ => ?_, fun n => absurd (List.mem_cons_self ..) n⟩
      by_cases hl2 : v < (restE ε0 ε vs).length
      · rw [sl_set hl2, if_pos rfl]
      · rw [sl_out (by rw [List.length_set]; exact Nat.le_of_not_lt hl2), sl_out (by rw [hl, ← restE_len ε0 ε vs]; exact Nat.le_of_not_lt hl2)]
    · rw [sl_set2 e]
      refine ⟨fun m => ?_, fun m => h2 fun z => m (List.mem_cons_of_mem _ z)⟩
      rcases List.mem_cons.mp m with z | z
      · exact absurd z.symm e
      · exact h1 z
theorem env_ext {ε ε' : DEnv} (hl : ε.length = ε'.length) (h : ∀ i, sl ε i = sl ε' i) : ε = ε' := by
  refine List.ext_getElem hl fun i h1 h2 => ?_
  have := h i
  have e1 : sl ε i = ε[i] := by show (ε[i]?).getD none = _; rw [List.getElem?_eq_getElem h1]; rfl
  have e2 : sl ε' i = ε'[i] := by show (ε'[i]?).getD none = _; rw [List.getElem?_eq_getElem h2]; rfl
  rw [← e1, ← e2, this]
theorem wipe_get (σ : St) (i : Nat) : ∀ vs : List Nat, (wipe σ vs)[i]? = if i ∈ vs then (if i < σ.length then some none else none) else σ[i]?
  | [] => by simp [wipe]
  | v :: vs => by
    unfold wipe
    rw [List.getElem?_set, wipe_length, wipe_get σ i vs]
    by_cases e : v = i
    · subst e
      rw [if_pos rfl, if_pos (List.mem_cons_self ..)]
    · rw [if_neg e]
      by_cases m : i ∈ vs
      · rw [if_pos m, if_pos (List.mem_cons_of_mem _ m)]
      · rw [if_neg m, if_neg fun z => (List.mem_cons.mp z).elim (fun y => e y.symm) m]
theorem wipe_eq {σ σ' : St} {vs : List Nat} (hl : σ'.length = σ.length) (h : ∀ j, j ∉ vs → σ'[j]? = σ[j]?) : wipe σ' vs = wipe σ vs := by
  refine List.ext_getElem? fun i => ?_
  rw [wipe_get, wipe_get]
  by_cases m : i ∈ vs
  · rw [if_pos m, if_pos m, hl]
  · rw [if_neg m, if_neg m, h i m]
abbrev E00 : DEx := fun _ _ _ _ => False
theorem exc00 {K : PySem.W.Frag} {c : Ctx} {W : WX} : ExcOK K c W E00 := fun _ _ _ _ _ _ _ _ _ _ h => h.elim
section
variable {K : PySem.W.Frag} {c : Ctx} {Γ : List Md} {σ σ2 : St} {H H1 H2 H' R R1 R2 R' : Hp} {ε ε0 ε1 ε2 ε3 ε' : DEnv} {u u1 u2 : Bool} {vs : List Nat}
theorem Rel.wipe (r : Rel K c Γ σ H ε R) (hv : ∀ i ∈ vs, md Γ i = .sh) : Rel K c Γ (wipe σ vs) H (wipeE ε vs) R := by
  have own : ∀ j a, OwnAt Γ (L2.wipe σ vs) (wipeE ε vs) j a ↔ OwnAt Γ σ ε j a := fun j a => by
    unfold OwnAt
    by_cases m : j ∈ vs
    · exact ⟨fun z => absurd (hv j m) z.1, fun z => absurd (hv j m) z.1⟩
    · rw [(sl_wipe ε j vs).2 m, wipe_get, if_neg m]
  refine ⟨by rw [wipe_length, wipeE_len]; exact r.len, fun j d h m => ?_, fun j ds h m => ?_, fun j l a h1 h2 => r.sep j l a ((own j a).mp h1) ((own l a).mp h2), fun p hp => ?_, r.iox, r.sub, r.r0, r.e1, r.e2, r.dom⟩
  · by_cases e : j ∈ vs
    · rw [(sl_wipe ε j vs).1 e] at h; cases h
    · rw [(sl_wipe ε j vs).2 e] at h
      rw [wipe_get, if_neg e]
      exact r.pure j d h m
  · by_cases e : j ∈ vs
    · exact absurd (hv j e) m
    · rw [(sl_wipe ε j vs).2 e] at h
      rw [wipe_get, if_neg e]
      exact r.own j ds h m
  · obtain ⟨z1, z2⟩ := r.io p hp
    exact ⟨z1, (own 0 p).mpr z2⟩
/-- back to the slots as they were -/
theorem Rel.unwipe (r0 : Rel K c Γ σ H1 ε1 R1) (r : Rel K c Γ (L2.wipe σ vs) H ε R) (hv : ∀ i ∈ vs, md Γ i = .sh) (g : Same R1 R) : Rel K c Γ σ H (restE ε1 ε vs) R := by
  have hl : ε1.length = ε.length := by rw [← r0.len, ← r.len, wipe_length]
  have own : ∀ j a, OwnAt Γ (L2.wipe σ vs) ε j a ↔ OwnAt Γ σ (restE ε1 ε vs) j a := fun j a => by
    unfold OwnAt
    by_cases m : j ∈ vs
    · exact ⟨fun z => absurd (hv j m) z.1, fun z => absurd (hv j m) z.1⟩
    · rw [(sl_rest ε1 ε hl j vs).2 m, wipe_get, if_neg m]
  refine ⟨by rw [restE_len, ← r.len, wipe_length], fun j d h m => ?_, fun j ds h m => ?_, fun j l a h1 h2 => r.sep j l a ((own j a).mpr h1) ((own l a).mpr h2), fun p hp => ?_, r.iox, r.sub, r.r0, r.e1, r.e2, r.dom⟩
  · by_cases e : j ∈ vs
    · rw [(sl_rest ε1 ε hl j vs).1 e] at h
      obtain ⟨v, h1, h2⟩ := r0.pure j d h (.inl (hv j e))
      exact ⟨v, h1, At.mono g d v h2⟩
    · rw [(sl_rest ε1 ε hl j vs).2 e] at h
      have := r.pure j d h m
      rwa [wipe_get, if_neg e] at this
  · by_cases e : j ∈ vs
    · exact absurd (hv j e) m
    · rw [(sl_rest ε1 ε hl j vs).2 e] at h
      have := r.own j ds h m
      rwa [wipe_get, if_neg e] at this
  · obtain ⟨z1, z2⟩ := r.io p hp
    exact ⟨z1, (own 0 p).mp z2⟩
theorem Stp.tr (s : Stp u Γ σ2 ε2 R H ε3 R' H') (hσ : ∀ i, i ∉ vs → σ2[i]? = σ[i]?) (hv : ∀ i ∈ vs, md Γ i = .sh) (l2 : ε1.length = ε2.length) (l3 : ε1.length = ε3.length) : Stp u Γ σ (restE ε1 ε2 vs) R H (restE ε1 ε3 vs) R' H' := by
  refine ⟨s.r, fun a o n h => s.h a o (fun i q => n i ?_) h, s.n, s.d, fun i => ?_, fun z => ?_⟩
  · obtain ⟨q1, q2, q3⟩ := q
    have m : i ∉ vs := fun m => q1 (hv i m)
    exact ⟨q1, by rw [(sl_rest ε1 ε2 l2 i vs).2 m]; exact q2, by rw [← hσ i m]; exact q3⟩
  · by_cases m : i ∈ vs
    · rw [(sl_rest ε1 ε3 l3 i vs).1 m, (sl_rest ε1 ε2 l2 i vs).1 m]
    · rw [(sl_rest ε1 ε3 l3 i vs).2 m, (sl_rest ε1 ε2 l2 i vs).2 m]; exact s.s i
  · obtain ⟨e, h⟩ := s.z z
    exact ⟨by rw [e], h⟩
theorem rest_wipe (hl : ε1.length = ε.length) : restE ε1 (wipeE ε vs) vs = restE ε1 ε vs := by
  refine env_ext (by rw [restE_len, restE_len, wipeE_len]) fun i => ?_
  by_cases m : i ∈ vs
  · rw [(sl_rest ε1 _ (by rw [wipeE_len]; exact hl) i vs).1 m, (sl_rest ε1 ε hl i vs).1 m]
  · rw [(sl_rest ε1 _ (by rw [wipeE_len]; exact hl) i vs).2 m, (sl_rest ε1 ε hl i vs).2 m, (sl_wipe ε i vs).2 m]
theorem rest_self : restE ε ε vs = ε := by
  refine env_ext (restE_len ..) fun i => ?_
  by_cases m : i ∈ vs
  · exact (sl_rest ε ε rfl i vs).1 m
  · exact (sl_rest ε ε rfl i vs).2 m
theorem rest_off (hl : ε1.length = ε.length) (hl2 : ε1.length = ε2.length) (h : ∀ j, j ∉ vs → sl ε2 j = sl ε j) : restE ε1 ε2 vs = restE ε1 ε vs := by
  refine env_ext (by rw [restE_len, restE_len, ← hl, ← hl2]) fun i => ?_
  by_cases m : i ∈ vs
  · rw [(sl_rest ε1 _ hl2 i vs).1 m, (sl_rest ε1 ε hl i vs).1 m]
  · rw [(sl_rest ε1 _ hl2 i vs).2 m, (sl_rest ε1 ε hl i vs).2 m, h i m]
/-- the new list at q, which no slot holds, changed -/
theorem Rel.poke (r : Rel K c Γ σ H ε R) {q : Addr} {o : HO} (n : ∀ i, ¬ OwnAt Γ σ ε i q) (h0 : R q = none) (hc : c.H0 q = none) : Rel K c Γ σ (upd H q o) ε R := by
  refine ⟨r.len, r.pure, fun i ds h m => ?_, r.sep, r.io, r.iox, fun b z e => ?_, r.r0, fun a z h1 h2 => ?_, r.e2, fun a h => ?_⟩
  · obtain ⟨p, vs, h1, h2, h3⟩ := r.own i ds h m
    have ne : p ≠ q := fun z => n i ⟨m, by rw [h]; rfl, by rw [← z]; exact h1⟩
    exact ⟨p, vs, h1, by rw [upd_ne ne]; exact h2, h3⟩
  · by_cases e2 : b = q
    · subst e2; rw [h0] at e; cases e
    · rw [upd_ne e2]; exact r.sub _ _ e
  · by_cases e2 : a = q
    · subst e2; rw [hc] at h2; cases h2
    · rw [upd_ne e2]; exact r.e1 _ _ h1 h2
  · by_cases e2 : a = q
    · subst e2; exact hc
    · rw [upd_ne e2] at h; exact r.dom _ h
end
/-- the block's turns over data -/
def lcLoop (vs : List Nat) (wg : DTG) (wt : DTT) (we : DTE) : List D → DEnv → List D → (List D → DEnv → Prop) → Prop
  | [], ε, acc, P => P acc ε
  | d :: r, ε, acc, P => wg d ε fun ε2 => wt E00 ε2 fun b ε3 => if b = true then we E00 ε3 fun y ε4 => lcLoop vs wg wt we r (wipeE ε4 vs) (acc ++ [y]) P else lcLoop vs wg wt we r (wipeE ε3 vs) acc P
def wLc (vs : List Nat) (wi : DTA) (wg : DTG) (wt : DTT) (we : DTE) : DTE := fun E ε P => wi E ε fun ds ε1 => ds.length ≤ sizeLine ∧ lcLoop vs wg wt we ds (wipeE ε1 vs) [] fun acc εb => P (.lst acc) (restE ε1 εb vs)
section
variable {X : Cx} {c : Ctx} {W : WX} {Γ : List Md} {tg iter elt : Expr} {ifs : List Expr} {scope : Scope} {own : List (Str × Nat)} {k : Kd} {ui ut ue : Bool} {wi : DTA} {wg : DTG} {wt : DTT} {we : DTE} {pos : Pos} {is vs : List Nat}
theorem lcLoop_mono (mg : ∀ d ε P P', (∀ ε', P ε' → P' ε') → wg d ε P → wg d ε P') (mt : ∀ E ε P P', (∀ d ε', P d ε' → P' d ε') → wt E ε P → wt E ε P') (me : ∀ E ε P P', (∀ d ε', P d ε' → P' d ε') → we E ε P → we E ε P') :
    ∀ (ds : List D) (ε : DEnv) (acc : List D) (P P' : List D → DEnv → Prop), (∀ a ε, P a ε → P' a ε) → lcLoop vs wg wt we ds ε acc P → lcLoop vs wg wt we ds ε acc P'
  | [], ε, acc, P, P', h, p => h _ _ p
  | d :: r, ε, acc, P, P', h, p => by
    unfold lcLoop at p ⊢
    refine mg _ _ _ _ (fun ε2 q => mt _ _ _ _ (fun b ε3 q => ?_) q) p
    cases b with
    | true =>
      rw [if_pos rfl] at q ⊢
      exact me _ _ _ _ (fun y ε4 q => lcLoop_mono mg mt me r _ _ _ _ h q) q
    | false =>
      rw [if_neg Bool.false_ne_true] at q ⊢
      exact lcLoop_mono mg mt me r _ _ _ _ h q
theorem lc_sound {K : PySem.W.Frag} {σ : St} {H : Hp} {ε1 : DEnv} {R : Hp} {ds : List D} {J : It} {PF : List D → DEnv → Prop} {Q : VK} {D0 : Addr} {W0 : WX} (hv : ∀ i ∈ vs, md Γ i = .sh) (his : ∀ i ∈ is, i ∈ vs)
    (r : Rel K c Γ σ H ε1 R) (wk : Wk K J R H k ds) (hk : k = .rd → (ut || ue) = false) (hlen : ds.length ≤ sizeLine) (p : lcLoop vs wg wt we ds (wipeE ε1 vs) [] PF) (hD : H D0 = none)
    (q : ∀ acc εb vacc H' R', PF acc εb → Rel K c Γ σ H' (restE ε1 εb vs) R' → Stp (ut || ue) Γ σ ε1 R H (restE ε1 εb vs) R' H' → H' D0 = some (.lst vacc) → R' D0 = none → AtL K R' acc vacc → Q (.ref D0) H') :
    ∃ W : Nat → Nat → Hp → Prop, (∃ m, W 0 m (upd H D0 (.lst []))) ∧ ∀ i m H, W i m H →
      (J.stop i H ∧ Q (.ref D0) H) ∨ (J.go i H ∧ ∃ Nx : Hp → Prop, (∀ H', Nx H' → ∃ m', m' < m ∧ W (i + 1) m' H') ∧ ∀ x H', J.yld i H x H' → canG K c Γ is wg x (wipe σ vs) H' fun σ2 H2 => wipe σ2 vs = wipe σ vs ∧ canT K c W0 Γ ut wt σ2 H2 fun b H3 =>
        if b = true then canE K c W0 Γ .pu ue we σ2 H3 fun y H4 => ∃ acc, H4 D0 = some (.lst acc) ∧ acc.length < sizeLine ∧ Nx (upd H4 D0 (.lst (acc ++ [y]))) else Nx H3) := by
  obtain ⟨G, Y, w, hG, hY⟩ := wk
  have nO : ∀ i, ¬ OwnAt Γ σ ε1 i D0 := fun i z => by
    obtain ⟨_, _, _, h1, _⟩ := r.ownH z
    rw [hD] at h1; cases h1
  have h0D : c.H0 D0 = none := r.dom _ hD
  have lεσ : σ.length = ε1.length := r.len
  have RD : R D0 = none := by
    cases e : R D0 with
    | none => rfl
    | some o => rw [r.sub _ _ e] at hD; cases hD
  refine lc_it w (fun i H' => ∃ ε R' acc vacc, Rel K c Γ (wipe σ vs) H' ε R' ∧ H' D0 = some (.lst vacc) ∧ R' D0 = none ∧ AtL K R' acc vacc ∧ acc.length ≤ i ∧ lcLoop vs wg wt we (ds.drop i) ε acc PF ∧ Stp (ut || ue) Γ σ ε1 R H (restE ε1 ε vs) R' H') ?_ ?_ ?_ ?_
  · refine ⟨wipeE ε1 vs, R, [], [], ?_, upd_same, RD, AtL.nil, Nat.le_refl _, by simpa using p, ?_⟩
    · refine ((r.wipe hv).poke (fun i z => nO i ?_) RD h0D)
      obtain ⟨z1, z2, z3⟩ := z
      have m : i ∉ vs := fun m => z1 (hv i m)
      rw [(sl_wipe ε1 i vs).2 m] at z2
      rw [wipe_get, if_neg m] at z3
      exact ⟨z1, z2, z3⟩
    · rw [rest_wipe rfl, rest_self]
      exact Stp.grow (Same.refl _) (same_upd hD) fun _ _ h => .inl h
  · rintro i H' hi ⟨ε, R', acc, vacc, r', _, _, _, _, _, s'⟩
    exact hG R' H' s'.r r'.sub fun e => (s'.z (hk e)).2
  · rintro i x Ha Hb hi ⟨ε, R', acc, vacc, r', hD', hRD', la, hacc, lp, s'⟩ y
    obtain ⟨R2, d, hd, g, hx⟩ := hY i Ha R' x Hb hi s'.r r'.sub (fun e => (s'.z (hk e)).2) y
    have hdrop : ds.drop i = d :: ds.drop (i + 1) := by
      have hlt : i < ds.length := hi
      rw [List.drop_eq_getElem_cons hlt]
      rw [List.getElem?_eq_getElem hlt] at hd
      injection hd with hd
      rw [hd]
    rw [hdrop] at lp
    unfold lcLoop at lp
    have lE : ε1.length = ε.length := by rw [← lεσ, ← r'.len, wipe_length]
    refine ⟨ε, R2, d, _, g.rel r', hx, lp, fun ε2 σ2 p2 r2 o2 => ?_⟩
    have l2 : ε1.length = ε2.length := by rw [← lεσ, ← r2.len, o2.l, wipe_length]
    have eσ : ∀ j, j ∉ vs → σ2[j]? = σ[j]? := fun j n => by rw [o2.s j fun z => n (his j z), wipe_get, if_neg n]
    have hw : wipe σ2 vs = wipe σ vs := wipe_eq (by rw [o2.l, wipe_length]) eσ
    have eε : restE ε1 ε2 vs = restE ε1 ε vs := rest_off lE l2 fun j n => o2.e j fun z => n (his j z)
    have s2 : Stp (ut || ue) Γ σ ε1 R H (restE ε1 ε2 vs) R2 Hb := by
      rw [eε]
      have := s'.trans (g.stp (Γ := Γ) (σ := σ) (ε := restE ε1 ε vs))
      rwa [Bool.or_false] at this
    have hD2 : Hb D0 = some (.lst vacc) := g.h _ _ hD'
    have hR2 : R2 D0 = none := by
      cases e : R2 D0 with
      | none => rfl
      | some o =>
        rcases g.n _ _ e with z | z
        · rw [hRD'] at z; cases z
        · rw [hD'] at z; cases z
    -- no slot holds the new list
    have nOw : ∀ {ε' : DEnv} {Rx Hx : Hp}, ε1.length = ε'.length → Stp (ut || ue) Γ σ ε1 R H (restE ε1 ε' vs) Rx Hx → ∀ i, ¬ OwnAt Γ σ2 ε' i D0 := fun {ε' Rx Hx} hl' sx i z => by
      obtain ⟨z1, z2, z3⟩ := z
      have m : i ∉ vs := fun m => z1 (hv i m)
      refine nO i ⟨z1, ?_, by rw [← eσ i m]; exact z3⟩
      rw [← sx.s i, (sl_rest ε1 ε' hl' i vs).2 m]; exact z2
    have stay : ∀ {uu : Bool} {εa εb : DEnv} {Ra Ha Rb Hb : Hp}, (∀ i, ¬ OwnAt Γ σ2 εa i D0) → Stp uu Γ σ2 εa Ra Ha εb Rb Hb → Ha D0 = some (.lst vacc) → Ra D0 = none → Hb D0 = some (.lst vacc) ∧ Rb D0 = none := fun {uu εa εb Ra Ha Rb Hb} n sx h1 h2 => by
      refine ⟨sx.h _ _ n h1, ?_⟩
      cases e : Rb D0 with
      | none => rfl
      | some o =>
        rcases sx.n _ _ e with z | z
        · rw [h2] at z; cases z
        · rw [h1] at z; cases z
    refine ⟨hw, ε2, R2, E00, _, r2, exc00, p2, fun b ε3 H3 R3 p3 r3 s3 => ?_⟩
    have l3 : ε1.length = ε3.length := by rw [l2, ← r2.len, ← r3.len]
    have s3' : Stp (ut || ue) Γ σ ε1 R H (restE ε1 ε3 vs) R3 H3 := by
      have t3 := s2.trans ((s3.tr (vs := vs) (ε1 := ε1) eσ hv l2 l3))
      cases hu : (ut || ue) with
      | true => exact t3.any
      | false =>
        rw [hu, (Bool.or_eq_false_iff.mp hu).1] at t3; exact t3
    obtain ⟨hD3, hR3⟩ := stay (nOw l2 s2) s3 hD2 hR2
    have r3w : Rel K c Γ (wipe σ vs) H3 (wipeE ε3 vs) R3 := by rw [← hw]; exact r3.wipe hv
    have l3' : AtL K R3 acc vacc := AtL.mono (g.r.trans s3.r) acc vacc la
    cases b with
    | false =>
      simp only [Bool.false_eq_true, if_false] at p3
      refine iteF ?_
      refine ⟨wipeE ε3 vs, R3, acc, vacc, r3w, hD3, hR3, l3', Nat.le_succ_of_le hacc, p3, ?_⟩
      rw [rest_wipe l3]; exact s3'
    | true =>
      simp only [if_true] at p3
      refine iteT ?_
      refine ⟨ε3, R3, E00, _, r3, exc00, p3, fun y ε4 v H4 R4 p4 r4 s4 hv4 => ?_⟩
      have l4 : ε1.length = ε4.length := by rw [l3, ← r3.len, ← r4.len]
      have s4' : Stp (ut || ue) Γ σ ε1 R H (restE ε1 ε4 vs) R4 H4 := by
        have t4 := s3'.trans ((s4.tr (vs := vs) (ε1 := ε1) eσ hv l3 l4))
        cases hu : (ut || ue) with
        | true => exact t4.any
        | false =>
          rw [hu, (Bool.or_eq_false_iff.mp hu).2] at t4; exact t4
      obtain ⟨hD4, hR4⟩ := stay (nOw l3 s3') s4 hD3 hR3
      have n4 := nOw l4 s4'
      refine ⟨vacc, hD4, ?_, wipeE ε4 vs, R4, acc ++ [y], vacc ++ [v], ?_, upd_same, hR4, (AtL.mono s4.r acc vacc l3').app (AtL.cons hv4 AtL.nil), ?_, p4, ?_⟩
      · rw [← la.len]
        exact Nat.lt_of_le_of_lt hacc (Nat.lt_of_lt_of_le hi hlen)
      · rw [← hw]
        exact (r4.poke n4 hR4 h0D).wipe hv
      · rw [List.length_append]; exact Nat.succ_le_succ hacc
      · rw [rest_wipe l4]
        refine ⟨s4'.r, fun a o n h => ?_, s4'.n, fun a h => ?_, s4'.s, fun z => ?_⟩
        · have ne : a ≠ D0 := fun z => by subst z; rw [hD] at h; cases h
          rw [upd_ne ne]; exact s4'.h a o n h
        · by_cases e : a = D0
          · subst e; exact hD
          · rw [upd_ne e] at h; exact s4'.d a h
        · obtain ⟨z1, z2⟩ := s4'.z z
          refine ⟨z1, fun b o h => ?_⟩
          have ne : b ≠ D0 := fun z => by subst z; rw [hD] at h; cases h
          rw [upd_ne ne]; exact z2 b o h
  · rintro H' ⟨ε, R', acc, vacc, r', hD', hRD', la, _, lp, s'⟩
    rw [List.drop_length] at lp
    exact q acc ε vacc H' R' lp (r.unwipe r' hv s'.r) s' hD' hRD' la
/-- what a block's parts must be: the same in every block's context -/
structure Blk (X : Cx) (c : Ctx) (Γ : List Md) (tg : Expr) (ifs : List Expr) (elt : Expr) (scope : Scope) (is : List Nat) (ut ue : Bool) (wg : DTG) (wt : DTT) (we : DTE) : Prop where
  g : ∀ (s : Shared) (H : Hp) (C : Addr) (cl : List (Str × Addr)) (fp : List Addr), DG (X.blk s H scope (compEnvC scope cl C X.env) fp) c Γ tg is wg
  t : ∀ (s : Shared) (H : Hp) (C : Addr) (cl : List (Str × Addr)) (fp : List Addr), DTs (X.blk s H scope (compEnvC scope cl C X.env) fp) c (fun _ _ _ _ => False) Γ ifs ut wt
  e : ∀ (s : Shared) (H : Hp) (C : Addr) (cl : List (Str × Addr)) (fp : List Addr), DE (X.blk s H scope (compEnvC scope cl C X.env) fp) c (fun _ _ _ _ => False) Γ elt .pu ue we
theorem Blk.mono (b : Blk X c Γ tg ifs elt scope is ut ue wg wt we) (mi : ∀ E ε P P', (∀ d ε', P d ε' → P' d ε') → wi E ε P → wi E ε P') (E : DEx) (ε : DEnv) (P P' : D → DEnv → Prop) (h : ∀ d ε', P d ε' → P' d ε') (p : wLc vs wi wg wt we E ε P) : wLc vs wi wg wt we E ε P' :=
  mi _ _ _ _ (fun _ _ q => ⟨q.1, lcLoop_mono (b.g X.s_0 X.H_0 0 [] []).mono (b.t X.s_0 X.H_0 0 [] []).mono (b.e X.s_0 X.H_0 0 [] []).mono _ _ _ _ _ (fun _ _ q => h _ _ q) q.2⟩) p
theorem snd_lc {t : TI} (b : Blk X c Γ tg ifs elt scope is ut ue wg wt we) (hv : ∀ i ∈ vs, md Γ i = .sh) (his : ∀ i ∈ is, i ∈ vs) (hk : k = .rd → (ut || ue) = false)
    (si : ∀ σ H ε R E P Q, Rel X.K c Γ σ H ε R → ExcOK X.K c W E → wi E ε P → (∀ ds ε' H' R' J, P ds ε' → Rel X.K c Γ σ H' ε' R' → Stp ui Γ σ ε R H ε' R' H' → Wk X.K J R' H' k ds → Q J H') → t σ H Q) :
    Snd X.K c W Γ (tLc t (canG X.K c Γ is wg) (canT X.K c (fun _ _ _ _ => False) Γ ut wt) (canE X.K c (fun _ _ _ _ => False) Γ .pu ue we) vs) .fr (ui || (ut || ue)) (wLc vs wi wg wt we) := by
  intro σ H ε R E P Q r x p q
  refine si σ H ε R E _ _ r x p fun ds ε1 H1 R1 J p1 r1 s1 wk => fun D0 hD => ?_
  refine lc_sound hv his r1 wk hk p1.1 p1.2 hD fun acc εb vacc H' R' pf r' s' h1 h2 h3 => ?_
  refine q _ _ _ H' R' pf r' (s1.trans s') ⟨fun z => (nomatch z), fun es e => ?_⟩
  cases e
  refine ⟨D0, vacc, rfl, h1, h2, h3, s1.d _ hD, fun i z => ?_⟩
  have z' := s'.own.mp z
  obtain ⟨_, _, _, h4, _⟩ := r1.ownH z'
  rw [hD] at h4; cases h4
theorem de_lc (b : Blk X c Γ tg ifs elt scope is ut ue wg wt we) (hc : X.calm = true) (hN : X.N.Nodup) (hi : DI X c W Γ tg iter k ui wi) (ok : BlkOk X.N X.env.scope scope own) (hv : ∀ i ∈ own.map (·.2), md Γ i = .sh := by decide) (his : ∀ i ∈ is, i ∈ own.map (·.2) := by decide) (hk : k = .rd → (ut || ue) = false := by decide)
    (hs : ∀ x, foldedSetIterable iter X.env x = pure x := by intro _; rfl) : DE X c W Γ (.ListComp elt [⟨tg, iter, ifs, 0⟩] scope pos) .fr (ui || (ut || ue)) (wLc (own.map (·.2)) wi wg wt we) := by
  obtain ⟨⟨t, pi, si⟩, mi⟩ := hi
  exact ⟨⟨_, pe_lc hc hN pi ok (fun s H C cl fp => (b.g s H C cl fp).run) (fun s H C cl fp => (b.t s H C cl fp).run) (fun s H C cl fp => (b.e s H C cl fp).can) hs, snd_lc b hv his hk si⟩, b.mono mi⟩
end
end DL
set_option Elab.async false
set_option linter.all false
set_option maxRecDepth 100000
set_option maxHeartbeats 1000000
/-! statements, defs -/
namespace DL
open PySem PySem.Spec L2
open PyProof.Rows hiding St

section
variable {X : Cx} {c : Ctx} {W : WX} {Γ Γ' Γl Γ1 Γ2 : List Md} {a b e e' : Expr} {es rest : List Expr} {k ka kb kc : Kd} {u ua ub uc : Bool} {w wa wb wc : DTE} {va vb : DTA} {vt : DTT} {pos pos' p p2 p3 p4 tpos apos cpos : Pos} {x y : Str} {m : Kd} {σ : St} {H R : Hp} {ε : DEnv}
/-! ### lists that are changed in place -/
theorem Rel.ownL (r : Rel X.K c Γ σ H ε R) {i : Nat} (h : isL (sl ε i) = true) (hm : md Γ i ≠ .sh) : ∃ cs q cv, sl ε i = some (.lst cs) ∧ σ[i]? = some (some (.ref q)) ∧ H q = some (.lst cv) ∧ R q = none ∧ AtL X.K R cs cv := by
  cases hd : sl ε i with
  | none => rw [hd] at h; cases h
  | some d =>
    rw [hd] at h
    cases d with
    | lst ds =>
      obtain ⟨q, vs, h1, h2, h3, h4, _⟩ := r.own i ds hd hm
      exact ⟨ds, q, vs, rfl, h1, h2, h3, h4⟩
    | _ => exact absurd h Bool.false_ne_true
theorem Rel.rewrite (r : Rel X.K c Γ σ H ε R) {i : Nat} {cs cs' : List D} {q : Addr} {cv' : List V} (hd : sl ε i = some (.lst cs)) (hm : md Γ i ≠ .sh) (hσ : σ[i]? = some (some (.ref q))) (hq : R q = none) (l : AtL X.K R cs' cv') :
    Rel X.K c Γ σ (upd H q (.lst cv')) (ε.set i (some (.lst cs'))) R ∧ Stp true Γ σ ε R H (ε.set i (some (.lst cs'))) R (upd H q (.lst cv')) :=
  r.ioStep hd hm hσ (fun b o h => by
    by_cases e : b = q
    · subst e; rw [hq] at h; cases h
    · rw [upd_ne e]; exact r.sub _ _ h) (Same.refl _) (fun b o n h => by
    have ne : b ≠ q := fun z => n (by rw [z])
    rw [upd_ne ne]; exact h) (fun _ _ h => .inl h) (fun b h => by
    by_cases e : b = q
    · subst e; rw [upd_same] at h; cases h
    · rwa [upd_ne e] at h) upd_same hq l
/-- the list at slot i, with the value at hand -/
def wMeth (i : Nat) (w : DTE) (f : List D → D → (List D → Prop) → Prop) : DTE := fun E ε P => isL (sl ε i) = true ∧ w E ε fun y ε1 => onS (sl ε1 i) fun d => onS (asL d) fun cs => f cs y fun cs' => P .non (ε1.set i (some (.lst cs')))
theorem wMeth_mono {i : Nat} {f : List D → D → (List D → Prop) → Prop} (hf : ∀ cs y P P', (∀ z, P z → P' z) → f cs y P → f cs y P') (ma : ∀ E ε P P', (∀ d ε', P d ε' → P' d ε') → w E ε P → w E ε P') (E : DEx) (ε : DEnv) (P P' : D → DEnv → Prop) (h : ∀ d ε', P d ε' → P' d ε') (p : wMeth i w f E ε P) : wMeth i w f E ε P' :=
  ⟨p.1, ma _ _ _ _ (fun _ _ q => onS_mono (fun _ q => onS_mono (fun _ q => hf _ _ _ _ (fun _ q => h _ _ q) q) q) q) p.2⟩
def fApp : List D → D → (List D → Prop) → Prop := fun cs y P => cs.length < sizeLine ∧ P (cs ++ [y])
def fExt : List D → D → (List D → Prop) → Prop := fun cs y P => onS (asL y) fun zs => cs.length + zs.length ≤ sizeLine ∧ P (cs ++ zs)
theorem de_append (i : Nat) (ha : DE X c W Γ e .pu u w) (hi : X.N[i]? = some x := by rfl) (hm : md Γ i ≠ .sh := by decide) (hv : Vis X.env.scope x := by first | exact Or.inl rfl | exact Or.inr (Or.inl rfl) | exact Or.inr (Or.inr rfl)) (hd : (x == ("__debug__" : Str)) = false := by decide) (hcd : (x == ("__classdict__" : Str)) = false := by decide)
    (hbase : attributeBase (.Name x p) "append" X.env (eval (.Name x p) X.env) = eval (.Name x p) X.env := by rfl)
    (hfew : ((backTo cpos (starEach [e] X.env)).all (fun x => !x.1) && (backToKw cpos (keywordEach [] X.env)).all (fun x => x.1.isSome) && decide ([e].length + ([] : List Keyword).length + (if ([] : List Keyword).isEmpty then 0 else 1) < 30)) = true := by rfl)
    (hline : (apos.endLine == cpos.line) = true := by rfl) (hs : starEach [e] X.env = (false, eval e X.env) :: starEach [] X.env := by rfl) (hplain : (backTo cpos (starEach [] X.env)).any (·.1) = false := by rfl) :
    DE X c W Γ (.Call (.Attribute (.Name x p) "append" apos) [e] [] cpos) .pu true (wMeth i w fApp) := by
  obtain ⟨⟨t, pe, s⟩, mm⟩ := ha
  refine ⟨⟨_, pe_bm PySem.F.plainAttrs_list PySem.F.slot_list_append PySem.F.type_list_append mt_append (pe_var hi hv hd hcd) (pa_cons pe pa_nil hs) hbase hfew hline hs hplain, fun σ H ε R E P Q r xo p q => ?_⟩, wMeth_mono (fun _ _ _ _ h p => ⟨p.1, h _ p.2⟩) mm⟩
  obtain ⟨hl, p⟩ := p
  obtain ⟨cs0, q0, cv0, h1, h2, h3, h4, h5⟩ := r.ownL hl hm
  refine ⟨.ref q0, h2, .inl ⟨rfl, cv0, .inl (.inl h3)⟩, s σ H ε R E _ _ r xo p fun yd ε1 v H1 R1 p1 r1 s1 v1 => ?_⟩
  obtain ⟨d, hd2, p2⟩ := onS_inv p1
  obtain ⟨cs, hcs, p3⟩ := onS_inv p2
  have := asL_inv hcs
  subst this
  obtain ⟨q1, cv, e1, e2, e3, e4, _⟩ := r1.own i cs hd2 hm
  have eq : q1 = q0 := by rw [h2] at e1; injection e1 with z; injection z with z; injection z with z; exact z.symm
  subst eq
  obtain ⟨r2, s2⟩ := r1.rewrite hd2 hm h2 e3 (e4.app (AtL.cons v1 AtL.nil))
  refine ⟨q1, cv, v, rfl, rfl, e2, by rw [← e4.len]; exact p3.1, ?_⟩
  exact q .non _ .non _ R1 p3.2 r2 (by have := s1.trans s2; rwa [Bool.or_true] at this) (show At X.K R1 .non .non from at_non)
theorem de_extend (i : Nat) (ha : DE X c W Γ e k u w) (hi : X.N[i]? = some x := by rfl) (hm : md Γ i ≠ .sh := by decide) (hv : Vis X.env.scope x := by first | exact Or.inl rfl | exact Or.inr (Or.inl rfl) | exact Or.inr (Or.inr rfl)) (hd : (x == ("__debug__" : Str)) = false := by decide) (hcd : (x == ("__classdict__" : Str)) = false := by decide)
    (hbase : attributeBase (.Name x p) "extend" X.env (eval (.Name x p) X.env) = eval (.Name x p) X.env := by rfl)
    (hfew : ((backTo cpos (starEach [e] X.env)).all (fun x => !x.1) && (backToKw cpos (keywordEach [] X.env)).all (fun x => x.1.isSome) && decide ([e].length + ([] : List Keyword).length + (if ([] : List Keyword).isEmpty then 0 else 1) < 30)) = true := by rfl)
    (hline : (apos.endLine == cpos.line) = true := by rfl) (hs : starEach [e] X.env = (false, eval e X.env) :: starEach [] X.env := by rfl) (hplain : (backTo cpos (starEach [] X.env)).any (·.1) = false := by rfl) :
    DE X c W Γ (.Call (.Attribute (.Name x p) "extend" apos) [e] [] cpos) .pu true (wMeth i w fExt) := by
  obtain ⟨⟨t, pe, s⟩, mm⟩ := ha
  refine ⟨⟨_, pe_bm PySem.F.plainAttrs_list PySem.F.slot_list_extend PySem.F.type_list_extend mt_extend (pe_var hi hv hd hcd) (pa_cons pe pa_nil hs) hbase hfew hline hs hplain, fun σ H ε R E P Q r xo p q => ?_⟩, wMeth_mono (fun _ _ _ _ h p => onS_mono (fun _ q => ⟨q.1, h _ q.2⟩) p) mm⟩
  obtain ⟨hl, p⟩ := p
  obtain ⟨cs0, q0, cv0, h1, h2, h3, h4, h5⟩ := r.ownL hl hm
  refine ⟨.ref q0, h2, .inl ⟨rfl, cv0, .inl (.inl h3)⟩, s σ H ε R E _ _ r xo p fun yd ε1 v H1 R1 p1 r1 s1 v1 => ?_⟩
  obtain ⟨d, hd2, p2⟩ := onS_inv p1
  obtain ⟨cs, hcs, p3⟩ := onS_inv p2
  have := asL_inv hcs
  subst this
  obtain ⟨zs, hzs, p4⟩ := onS_inv p3
  have := asL_inv hzs
  subst this
  obtain ⟨q1, cv, e1, e2, e3, e4, _⟩ := r1.own i cs hd2 hm
  have eq : q1 = q0 := by rw [h2] at e1; injection e1 with z; injection z with z; injection z with z; exact z.symm
  subst eq
  obtain ⟨b, zv, f1, f2, f3⟩ := v1.rdv.lst r1.sub
  obtain ⟨r2, s2⟩ := r1.rewrite hd2 hm h2 e3 (e4.app f3)
  refine ⟨q1, b, cv, zv, rfl, by rw [f1], e2, f2, by rw [← e4.len, ← f3.len]; exact p4.1, ?_⟩
  exact q .non _ .non _ R1 p4.2 r2 (by have := s1.trans s2; rwa [Bool.or_true] at this) (show At X.K R1 .non .non from at_non)
def wMeth0 (i : Nat) (f : List D → List D) : DTE := fun _ ε P => onS (sl ε i) fun d => onS (asL d) fun cs => P .non (ε.set i (some (.lst (f cs))))
theorem de_reverse (i : Nat) (hi : X.N[i]? = some x := by rfl) (hm : md Γ i ≠ .sh := by decide) (hv : Vis X.env.scope x := by first | exact Or.inl rfl | exact Or.inr (Or.inl rfl) | exact Or.inr (Or.inr rfl)) (hd : (x == ("__debug__" : Str)) = false := by decide) (hcd : (x == ("__classdict__" : Str)) = false := by decide)
    (hbase : attributeBase (.Name x p) "reverse" X.env (eval (.Name x p) X.env) = eval (.Name x p) X.env := by rfl) (hline : (apos.endLine == cpos.line) = true := by rfl) :
    DE X c W Γ (.Call (.Attribute (.Name x p) "reverse" apos) [] [] cpos) .pu true (wMeth0 i List.reverse) := by
  refine ⟨⟨_, pe_bm0 PySem.F.plainAttrs_list PySem.F.slot_list_reverse PySem.F.type_list_reverse mt_reverse (pe_var hi hv hd hcd) hbase hline, fun σ H ε R E P Q r xo p q => ?_⟩, fun E ε P P' h p => onS_mono (fun _ q => onS_mono (fun _ q => h _ _ q) q) p⟩
  obtain ⟨d, hd2, p2⟩ := onS_inv p
  obtain ⟨cs, hcs, p3⟩ := onS_inv p2
  have := asL_inv hcs
  subst this
  obtain ⟨q1, cv, e1, e2, e3, e4, _⟩ := r.own i cs hd2 hm
  obtain ⟨r2, s2⟩ := r.rewrite hd2 hm e1 e3 e4.rev
  exact ⟨.ref q1, e1, .inl ⟨rfl, cv, .inl (.inl e2)⟩, q1, cv, rfl, rfl, e2, q .non _ .non _ R p3 r2 s2 (show At X.K R .non .non from at_non)⟩
end
/-! ### statements over data -/
structure DEnds where
  nx : DEnv → Prop
  rt : D → DEnv → Prop
  bk : DEnv → Prop
  ct : DEnv → Prop
abbrev DTS := DEx → DEnds → DEnv → Prop
structure EndsOK (K : PySem.W.Frag) (c : Ctx) (R0 : Hp) (Γl Γ' : List Md) (m : Kd) (D : DEnds) (Dn : Ends) : Prop where
  nx : ∀ σ H ε R, D.nx ε → Rel K c Γ' σ H ε R → Same R0 R → Dn.nx σ H
  rt : ∀ Γ σ H ε R d v, D.rt d ε → Rel K c Γ σ H ε R → RetVal K c.H0 R H d v m → Dn.rt v H
  bk : ∀ σ H ε R, D.bk ε → Rel K c Γl σ H ε R → Same R0 R → Dn.bk σ H
  ct : ∀ σ H ε R, D.ct ε → Rel K c Γl σ H ε R → Same R0 R → Dn.ct σ H
theorem EndsOK.on {K : PySem.W.Frag} {c : Ctx} {R0 R1 : Hp} {Γl Γ' : List Md} {m : Kd} {D : DEnds} {Dn : Ends} (o : EndsOK K c R0 Γl Γ' m D Dn) (g : Same R0 R1) : EndsOK K c R1 Γl Γ' m D Dn :=
  ⟨fun σ H ε R p r h => o.nx σ H ε R p r (g.trans h), o.rt, fun σ H ε R p r h => o.bk σ H ε R p r (g.trans h), fun σ H ε R p r h => o.ct σ H ε R p r (g.trans h)⟩
def DS (X : Cx) (c : Ctx) (W : WX) (m : Kd) (Γl Γ : List Md) (st : Stmt) (Γ' : List Md) (w : DTS) : Prop :=
  ∃ t, PS X st t ∧ ∀ σ H ε R E D Dn, Rel X.K c Γ σ H ε R → ExcOK X.K c W E → w E D ε → EndsOK X.K c R Γl Γ' m D Dn → t Dn σ H
def DSs (X : Cx) (c : Ctx) (W : WX) (m : Kd) (Γl Γ : List Md) (st : List Stmt) (Γ' : List Md) (w : DTS) : Prop :=
  ∃ t, PSs X st t ∧ ∀ σ H ε R E D Dn, Rel X.K c Γ σ H ε R → ExcOK X.K c W E → w E D ε → EndsOK X.K c R Γl Γ' m D Dn → t Dn σ H
section
variable {X : Cx} {c : Ctx} {W : WX} {Γ Γ' Γl Γ1 Γ2 : List Md} {a b e e' : Expr} {es rest : List Expr} {k ka kb kc : Kd} {u ua ub uc : Bool} {w wa wb wc : DTE} {va vb : DTA} {vt : DTT} {v1 v2 : DTS} {pos pos' p p2 p3 p4 tpos apos cpos : Pos} {x y : Str} {m : Kd} {st : Stmt} {sts sts' : List Stmt} {i j : Nat}
def wNext : DTS := fun _ D ε => D.nx ε
def wSeq (v1 v2 : DTS) : DTS := fun E D ε => v1 E { D with nx := v2 E D } ε
theorem dss_nil : DSs X c W m Γl Γ [] Γ wNext := ⟨_, pss_nil, fun σ H ε R E D Dn r x p o => o.nx σ H ε R p r (Same.refl _)⟩
theorem dss_cons (h1 : DS X c W m Γl Γ st Γ1 v1) (h2 : DSs X c W m Γl Γ1 sts Γ' v2) : DSs X c W m Γl Γ (st :: sts) Γ' (wSeq v1 v2) := by
  obtain ⟨t1, p1, s1⟩ := h1
  obtain ⟨t2, p2, s2⟩ := h2
  refine ⟨_, pss_cons p1 p2, fun σ H ε R E D Dn r x p o => ?_⟩
  exact s1 σ H ε R E _ _ r x p ⟨fun σ H ε R q r' g => s2 σ H ε R E D Dn r' x q (o.on g), o.rt, o.bk, o.ct⟩
/-- an owned list given out of hand: it is read only from here on -/
theorem Rel.frz {σ : St} {H R : Hp} {ε : DEnv} (r : Rel X.K c Γ σ H ε R) (hm : md Γ i ≠ .io) : ∃ R', Same R R' ∧ Rel X.K c (Γ.set i .sh) σ H ε R' := by
  have md' : ∀ j, md (Γ.set i .sh) j = if i = j then .sh else md Γ j := fun j => by
    show ((Γ.set i .sh)[j]?).getD .sh = _
    rw [List.getElem?_set]
    by_cases e : i = j
    · subst e
      rw [if_pos rfl, if_pos rfl]
      by_cases hl : i < Γ.length
      · rw [if_pos hl]; rfl
      · rw [if_neg hl]; rfl
    · rw [if_neg e, if_neg e]; rfl
  have base : ∀ {R' : Hp}, Same R R' → Same R' H → (∀ a o, R' a = some o → R a = some o ∨ ∃ ds, sl ε i = some (.lst ds) ∧ md Γ i ≠ .sh ∧ σ[i]? = some (some (.ref a))) →
      (∀ ds, sl ε i = some (.lst ds) → md Γ i ≠ .sh → ∃ v, σ[i]? = some (some v) ∧ At X.K R' (.lst ds) v) → Rel X.K c (Γ.set i .sh) σ H ε R' := fun {R'} g sb nw hp => by
    refine ⟨r.len, fun j d h m => ?_, fun j ds h m => ?_, fun j l a h1 h2 => ?_, fun p hp' => ?_, fun j h => ?_, sb, r.r0.trans g, r.e1, fun a o h => ?_, r.dom⟩
    · rw [md' j] at m
      by_cases e : i = j
      · subst e
        rcases isL_cases d with ⟨ds, el⟩ | el
        · subst el
          by_cases hsh : md Γ i = .sh
          · obtain ⟨v, h1, h2⟩ := r.pure i _ h (.inl hsh)
            exact ⟨v, h1, At.mono g _ v h2⟩
          · exact hp ds h hsh
        · obtain ⟨v, h1, h2⟩ := r.pure i d h (.inr el)
          exact ⟨v, h1, At.mono g d v h2⟩
      · rw [if_neg e] at m
        obtain ⟨v, h1, h2⟩ := r.pure j d h m
        exact ⟨v, h1, At.mono g d v h2⟩
    · rw [md' j] at m
      by_cases e : i = j
      · rw [if_pos e] at m; exact absurd rfl m
      · rw [if_neg e] at m
        obtain ⟨p, vs, h1, h2, h3, h4, h5⟩ := r.own j ds h m
        refine ⟨p, vs, h1, h2, ?_, AtL.mono g ds vs h4, h5⟩
        cases z : R' p with
        | none => rfl
        | some o =>
          rcases nw p o z with z2 | ⟨ds2, z2, z3, z4⟩
          · rw [h3] at z2; cases z2
          · exact absurd (r.sep i j p ⟨z3, by rw [z2]; rfl, z4⟩ ⟨m, by rw [h]; rfl, h1⟩) e
    · have f : ∀ {j a}, OwnAt (Γ.set i .sh) σ ε j a → OwnAt Γ σ ε j a := fun {j a} z => by
        obtain ⟨z1, z2, z3⟩ := z
        rw [md' j] at z1
        by_cases e : i = j
        · rw [if_pos e] at z1; exact absurd rfl z1
        · rw [if_neg e] at z1; exact ⟨z1, z2, z3⟩
      exact r.sep j l a (f h1) (f h2)
    · obtain ⟨z1, z2⟩ := r.io p hp'
      have ne : i ≠ 0 := fun z => hm (by rw [z]; exact z1)
      refine ⟨by rw [md' 0, if_neg ne]; exact z1, ?_⟩
      obtain ⟨y1, y2, y3⟩ := z2
      exact ⟨by rw [md' 0, if_neg ne]; exact y1, y2, y3⟩
    · rw [md' j] at h
      by_cases e : i = j
      · rw [if_pos e] at h; cases h
      · rw [if_neg e] at h; exact r.iox j h
    · rcases nw a o h with z | ⟨ds2, z2, z3, z4⟩
      · exact r.e2 a o z
      · obtain ⟨p, vs, h1, h2, h3, h4, h5⟩ := r.own i ds2 z2 z3
        rw [z4] at h1
        have e : a = p := by injection h1 with h1; injection h1 with h1; injection h1
        subst e
        rcases h5 with h5 | h5
        · exact .inr h5
        · obtain ⟨y1, y2⟩ := r.io a h5
          exact absurd (r.sep 0 i a y2 ⟨z3, by rw [z2]; rfl, z4⟩) (fun z => hm (by rw [← z]; exact y1))
  by_cases hsh : md Γ i = .sh
  · exact ⟨R, Same.refl _, base (Same.refl _) r.sub (fun _ _ h => .inl h) fun ds h n => absurd hsh n⟩
  · cases hd : sl ε i with
    | none => exact ⟨R, Same.refl _, base (Same.refl _) r.sub (fun _ _ h => .inl h) fun ds h n => by rw [hd] at h; cases h⟩
    | some d =>
      rcases isL_cases d with ⟨ds, el⟩ | el
      · subst el
        obtain ⟨p, vs, h1, h2, h3, h4, h5⟩ := r.own i ds hd hsh
        have hr : Same R (upd R p (.lst vs)) := same_upd h3
        refine ⟨upd R p (.lst vs), hr, base hr (fun b o z => ?_) (fun b o z => ?_) fun ds' h n => ?_⟩
        · by_cases hb : b = p
          · subst hb; rw [upd_same] at z; cases z; exact h2
          · rw [upd_ne hb] at z; exact r.sub _ _ z
        · by_cases hb : b = p
          · subst hb; exact .inr ⟨ds, hd, hsh, h1⟩
          · rw [upd_ne hb] at z; exact .inl z
        · rw [hd] at h
          injection h with h
          injection h with h
          subst h
          exact ⟨.ref p, h1, by unfold At; exact ⟨p, vs, rfl, upd_same, AtL.mono hr _ _ h4⟩⟩
      · exact ⟨R, Same.refl _, base (Same.refl _) r.sub (fun _ _ h => .inl h) fun ds h n => by rw [hd] at h; injection h with h; subst h; cases el⟩
theorem dss_frz (i : Nat) (h : DSs X c W m Γl (Γ.set i .sh) sts Γ' v1) (hm : md Γ i ≠ .io := by decide) : DSs X c W m Γl Γ sts Γ' v1 := by
  obtain ⟨t, p, s⟩ := h
  refine ⟨t, p, fun σ H ε R E D Dn r x q o => ?_⟩
  obtain ⟨R', g, r'⟩ := r.frz hm
  exact s σ H ε R' E D Dn r' x q (o.on g)
def wAsg (w : DTE) (g : DTG) : DTS := fun E D ε => w E ε fun d ε1 => g d ε1 D.nx
theorem ds_asg {is : List Nat} {tg : Expr} {g : DTG} (he : DE X c W Γ e .pu u w) (hg : DG X c Γ tg is g) (hs : swapsWithSole [tg] e pos.line X.env = pure false := by rfl) (hw : swappedStores [tg] e X.env = pure none := by rfl)
    (h1 : (assignEach [tg] X.env).map (·.2) = [assign tg X.env] := by rfl) : DS X c W m Γl Γ (.Assign [tg] e pos) Γ (wAsg w g) := by
  obtain ⟨⟨t, pe, s⟩, mm⟩ := he
  refine ⟨_, ps_asg pe hg.run hs hw h1, fun σ H ε R E D Dn r x p o => ?_⟩
  exact s σ H ε R E _ _ r x p fun d ε1 v H1 R1 p1 r1 s1 v1 => ⟨ε1, R1, d, D.nx, r1, v1, p1, fun ε2 σ2 p2 r2 _ => o.nx σ2 H1 ε2 R1 p2 r2 s1.r⟩
/-- name = value -/
def wSet (i : Nat) (w : DTE) : DTS := fun E D ε => w E ε fun d ε1 => D.nx (ε1.set i (some d))
theorem ds_set (i : Nat) (he : DE X c W Γ e .pu u w) (hN : X.N.Nodup) (hi : X.N[i]? = some x := by rfl) (hm : md Γ i = .sh := by rfl) (hx : Loc X.env.scope x := by first | exact Or.inl rfl | exact Or.inr rfl) (hs : swapsWith e (some (.Name x pos')) pos.line X.env = pure false := by rfl) (hf : X.fn x = true ∨ X.env.scope.names.lookup x = some .local := by first | exact .inl rfl | exact .inr rfl) :
    DS X c W m Γl Γ (.Assign [.Name x pos'] e pos) Γ (wSet i w) := by
  obtain ⟨⟨t, pe, s⟩, mm⟩ := he
  refine ⟨_, ps_set hN hi hx pe hs hf, fun σ H ε R E D Dn r x p o => ?_⟩
  exact s σ H ε R E _ _ r x p fun d ε1 v H1 R1 p1 r1 s1 v1 => o.nx _ H1 _ R1 p1 (r1.set hm v1).1 s1.r
theorem md_set {i j : Nat} {o : Md} (h : i < Γ.length) : md (Γ.set i o) j = if i = j then o else md Γ j := by
  show ((Γ.set i o)[j]?).getD .sh = _
  rw [List.getElem?_set]
  by_cases e : i = j
  · subst e; rw [if_pos rfl, if_pos rfl, if_pos h]; rfl
  · rw [if_neg e, if_neg e]; rfl
/-- a new list into a slot: from here on it may be changed -/
theorem Rel.setO {σ σ1 : St} {H R Hs Hd Rd : Hp} {ε εd : DEnv} {d : D} {v : V} (r : Rel X.K c Γ σ H ε R) (hm : md Γ i ≠ .io) (hlen : i < Γ.length) (hv : Val X.K Γ σ Hs ε R H d v .fr) (h0 : ∀ a, Hs a = none → c.H0 a = none) : Rel X.K c (Γ.set i .ow) (σ.set i (some v)) H (ε.set i (some d)) R := by
  by_cases hlt : i < ε.length
  · have hσ : i < σ.length := by rw [r.len]; exact hlt
    have gσ : ∀ j, (σ.set i (some v))[j]? = if i = j then some (some v) else σ[j]? := fun j => by
      rw [List.getElem?_set]
      by_cases e : i = j
      · subst e; rw [if_pos rfl, if_pos rfl, if_pos hσ]
      · rw [if_neg e, if_neg e]
    have own : ∀ j a, j ≠ i → (OwnAt (Γ.set i .ow) (σ.set i (some v)) (ε.set i (some d)) j a ↔ OwnAt Γ σ ε j a) := fun j a ne => by
      unfold OwnAt
      rw [sl_set hlt, gσ j, md_set hlen, if_neg (Ne.symm ne), if_neg (Ne.symm ne), if_neg (Ne.symm ne)]
    have own0 : ∀ a, OwnAt (Γ.set i .ow) (σ.set i (some v)) (ε.set i (some d)) i a → v = .ref a ∧ ∃ ds, d = .lst ds := fun a z => by
      obtain ⟨z1, z2, z3⟩ := z
      rw [sl_set hlt, if_pos rfl] at z2
      rw [gσ i, if_pos rfl] at z3
      refine ⟨by injection z3 with z3; injection z3, ?_⟩
      rcases isL_cases d with e | e
      · exact e
      · rw [e] at z2; cases z2
    have clash : ∀ j a, j ≠ i → OwnAt (Γ.set i .ow) (σ.set i (some v)) (ε.set i (some d)) j a → OwnAt (Γ.set i .ow) (σ.set i (some v)) (ε.set i (some d)) i a → False := fun j a ne h1 h2 => by
      obtain ⟨e1, ds, e2⟩ := own0 a h2
      subst e2
      obtain ⟨q, vs, f1, _, _, _, _, f2⟩ := hv.2 ds rfl
      rw [e1] at f1
      injection f1 with f1
      subst f1
      exact f2 j ((own j a ne).mp h1)
    refine ⟨by rw [List.length_set, List.length_set]; exact r.len, fun j d' h' m => ?_, fun j ds h' m => ?_, fun j l a h1 h2 => ?_, fun p hp => ?_, fun j h => ?_, r.sub, r.r0, r.e1, r.e2, r.dom⟩
    · rw [sl_set hlt] at h'
      rw [md_set hlen] at m
      rw [gσ j]
      by_cases e : i = j
      · subst e
        rw [if_pos rfl] at h' m ⊢
        injection h' with h'
        subst h'
        rcases m with m | m
        · cases m
        · exact ⟨v, rfl, hv.1 m⟩
      · rw [if_neg e] at h' m ⊢
        exact r.pure j d' h' m
    · rw [sl_set hlt] at h'
      rw [md_set hlen] at m
      rw [gσ j]
      by_cases e : i = j
      · subst e
        rw [if_pos rfl] at h' ⊢
        injection h' with h'
        obtain ⟨q, vs, f1, f2, f3, f4, f5, _⟩ := hv.2 ds h'
        exact ⟨q, vs, by rw [f1], f2, f3, f4, .inl (h0 _ f5)⟩
      · rw [if_neg e] at h' m ⊢
        exact r.own j ds h' m
    · by_cases ej : j = i
      · subst ej
        by_cases el : l = j
        · exact el.symm
        · exact (clash l a el h2 h1).elim
      · by_cases el : l = i
        · subst el; exact (clash j a ej h1 h2).elim
        · exact r.sep j l a ((own j a ej).mp h1) ((own l a el).mp h2)
    · obtain ⟨z1, z2⟩ := r.io p hp
      have ne : (0 : Nat) ≠ i := fun z => hm (by rw [← z]; exact z1)
      exact ⟨by rw [md_set hlen, if_neg (Ne.symm ne)]; exact z1, (own 0 p ne).mpr z2⟩
    · rw [md_set hlen] at h
      by_cases e : i = j
      · rw [if_pos e] at h; cases h
      · rw [if_neg e] at h; exact r.iox j h
  · have hσ : σ.length ≤ i := by rw [r.len]; exact Nat.le_of_not_lt hlt
    rw [List.set_eq_of_length_le hσ, List.set_eq_of_length_le (Nat.le_of_not_lt hlt)]
    have hn : sl ε i = none := sl_out (Nat.le_of_not_lt hlt)
    have own : ∀ j a, OwnAt (Γ.set i .ow) σ ε j a ↔ OwnAt Γ σ ε j a := fun j a => by
      unfold OwnAt
      rw [md_set hlen]
      by_cases e : i = j
      · subst e
        rw [hn]
        exact ⟨fun z => (nomatch z.2.1), fun z => (nomatch z.2.1)⟩
      · rw [if_neg e]
    refine ⟨r.len, fun j d' h' m => ?_, fun j ds h' m => ?_, fun j l a h1 h2 => r.sep j l a ((own j a).mp h1) ((own l a).mp h2), fun p hp => ?_, fun j h => ?_, r.sub, r.r0, r.e1, r.e2, r.dom⟩
    · rw [md_set hlen] at m
      by_cases e : i = j
      · subst e; rw [hn] at h'; cases h'
      · rw [if_neg e] at m; exact r.pure j d' h' m
    · rw [md_set hlen] at m
      by_cases e : i = j
      · subst e; rw [hn] at h'; cases h'
      · rw [if_neg e] at m; exact r.own j ds h' m
    · obtain ⟨z1, z2⟩ := r.io p hp
      have ne : (0 : Nat) ≠ i := fun z => hm (by rw [← z]; exact z1)
      exact ⟨by rw [md_set hlen, if_neg (Ne.symm ne)]; exact z1, (own 0 p).mpr z2⟩
    · rw [md_set hlen] at h
      by_cases e : i = j
      · rw [if_pos e] at h; cases h
      · rw [if_neg e] at h; exact r.iox j h
theorem ds_setO (i : Nat) (he : DE X c W Γ e .fr u w) (hN : X.N.Nodup) (hi : X.N[i]? = some x := by rfl) (hm : md Γ i ≠ .io := by decide) (hlen : i < Γ.length := by decide) (hx : Loc X.env.scope x := by first | exact Or.inl rfl | exact Or.inr rfl) (hs : swapsWith e (some (.Name x pos')) pos.line X.env = pure false := by rfl) (hf : X.fn x = true ∨ X.env.scope.names.lookup x = some .local := by first | exact .inl rfl | exact .inr rfl) :
    DS X c W m Γl Γ (.Assign [.Name x pos'] e pos) (Γ.set i .ow) (wSet i w) := by
  obtain ⟨⟨t, pe, s⟩, mm⟩ := he
  refine ⟨_, ps_set hN hi hx pe hs hf, fun σ H ε R E D Dn r x p o => ?_⟩
  exact s σ H ε R E _ _ r x p fun d ε1 v H1 R1 p1 r1 s1 v1 => o.nx _ H1 _ R1 p1 (r1.setO (Hd := H) (Rd := R) (εd := ε) (σ1 := σ) hm hlen v1 r.dom) s1.r
/-- name = [..] on one line -/
theorem snd_set {t : TE} (s : Snd X.K c W Γ t .pu u w) (hm : md Γ i = .sh) : ∀ σ H ε R E D Dn, Rel X.K c Γ σ H ε R → ExcOK X.K c W E → wSet i w E D ε → EndsOK X.K c R Γl Γ m D Dn → tAsg t (gName i) Dn σ H := fun σ H ε R E D Dn r x p o =>
  s σ H ε R E _ _ r x p fun d ε1 v H1 R1 p1 r1 s1 v1 => o.nx _ H1 _ R1 p1 (r1.set hm v1).1 s1.r
theorem snd_setO {t : TE} (s : Snd X.K c W Γ t .fr u w) (hm : md Γ i ≠ .io) (hlen : i < Γ.length) : ∀ σ H ε R E D Dn, Rel X.K c Γ σ H ε R → ExcOK X.K c W E → wSet i w E D ε → EndsOK X.K c R Γl (Γ.set i .ow) m D Dn → tAsg t (gName i) Dn σ H := fun σ H ε R E D Dn r x p o =>
  s σ H ε R E _ _ r x p fun d ε1 v H1 R1 p1 r1 s1 v1 => o.nx _ H1 _ R1 p1 (r1.setO (Hd := H) (Rd := R) (εd := ε) (σ1 := σ) hm hlen v1 r.dom) s1.r
theorem Snd.pu {t : TE} (s : Snd X.K c W Γ t .fr u w) : Snd X.K c W Γ t .pu u w := by
  intro σ H ε R E P Q r x p q
  refine s σ H ε R E P Q r x p fun d ε' v H' R' p' r' s' v' => ?_
  rcases isL_cases d with ⟨ds, el⟩ | el
  · subst el
    obtain ⟨a, vs, e1, e2, e3, e4, e5, e6⟩ := v'.2 ds rfl
    have hr : Same R' (upd R' a (.lst vs)) := same_upd e3
    have sb : Same (upd R' a (.lst vs)) H' := fun b o z => by
      by_cases hb : b = a
      · subst hb; rw [upd_same] at z; cases z; exact e2
      · rw [upd_ne hb] at z; exact r'.sub _ _ z
    have r2 : Rel X.K c Γ σ H' ε' (upd R' a (.lst vs)) := by
      refine ⟨r'.len, fun i d h m => ?_, fun i ds h m => ?_, r'.sep, r'.io, r'.iox, sb, r'.r0.trans hr, r'.e1, fun b o z => ?_, r'.dom⟩
      · obtain ⟨v, h1, h2⟩ := r'.pure i d h m
        exact ⟨v, h1, At.mono hr d v h2⟩
      · obtain ⟨p, vs', h1, h2, h3, h4, h5⟩ := r'.own i ds h m
        refine ⟨p, vs', h1, h2, ?_, AtL.mono hr ds vs' h4, h5⟩
        have ne : p ≠ a := fun z => e6 i ⟨m, by rw [h]; rfl, by rw [← z]; exact h1⟩
        rw [upd_ne ne]; exact h3
      · by_cases hb : b = a
        · subst hb; exact .inr (r.dom _ e5)
        · rw [upd_ne hb] at z; exact r'.e2 _ _ z
    have s2 : Stp u Γ σ ε R H ε' (upd R' a (.lst vs)) H' := ⟨s'.r.trans hr, s'.h, fun b o z => by
      by_cases hb : b = a
      · subst hb; exact .inr e5
      · rw [upd_ne hb] at z; exact s'.n _ _ z, s'.d, s'.s, s'.z⟩
    exact q _ ε' _ H' _ p' r2 s2 (by unfold Val At; exact ⟨a, vs, e1, upd_same, AtL.mono hr _ _ e4⟩)
  · exact q d ε' v H' R' p' r' s' (v'.1 el)
end
end DL
set_option Elab.async false
set_option linter.all false
set_option maxRecDepth 100000
set_option maxHeartbeats 1000000
/-! statements, defs -/
namespace DL
open PySem PySem.Spec L2
open PyProof.Rows hiding St
section
variable {X : Cx} {c : Ctx} {W : WX} {Γ Γ' Γl Γ1 Γ2 : List Md} {a b e e' : Expr} {es rest : List Expr} {k ka kb kc : Kd} {u ua ub uc : Bool} {w wa wb wc : DTE} {va vb : DTA} {vt : DTT} {v1 v2 vb' : DTS} {pos pos' p p2 p3 p4 tpos apos cpos spos py' : Pos} {x y : Str} {m : Kd} {st : Stmt} {sts sts' body : List Stmt} {i j : Nat}
/-! name = [..] on one line -/
theorem ds_setLc (i : Nat) {tg iter elt : Expr} {ifs : List Expr} {scope : Scope} {own : List (Str × Nat)} {wi : DTA} {wg : DTG} {wt : DTT} {we : DTE} {is : List Nat} {ui ut ue : Bool} (b : Blk X c Γ tg ifs elt scope is ut ue wg wt we) (hc : X.calm = true) (hN : X.N.Nodup) (hy : X.N[i]? = some y) (hyl : X.env.scope.names.lookup y = some .local)
    (hsw : swapsWith (.ListComp elt [⟨tg, iter, ifs, 0⟩] scope pos) (some (.Name y py')) spos.line X.env = pure true) (hi : DI X c W Γ tg iter k ui wi) (ok : BlkOk X.N X.env.scope scope own) (hv : ∀ i ∈ own.map (·.2), md Γ i = .sh := by decide) (his : ∀ i ∈ is, i ∈ own.map (·.2) := by decide) (hk : k = .rd → (ut || ue) = false := by decide) (hm : md Γ i = .sh := by rfl)
    (hs : ∀ x, foldedSetIterable iter X.env x = pure x := by intro _; rfl) : DS X c W m Γl Γ (.Assign [.Name y py'] (.ListComp elt [⟨tg, iter, ifs, 0⟩] scope pos) spos) Γ (wSet i (wLc (own.map (·.2)) wi wg wt we)) := by
  obtain ⟨⟨t, pi, si⟩, mi⟩ := hi
  exact ⟨_, ps_setLc hc hN hy hyl hsw pi ok (fun s H C cl fp => (b.g s H C cl fp).run) (fun s H C cl fp => (b.t s H C cl fp).run) (fun s H C cl fp => (b.e s H C cl fp).can) hs, snd_set (snd_lc b hv his hk si).pu hm⟩
theorem ds_setLcO (i : Nat) {tg iter elt : Expr} {ifs : List Expr} {scope : Scope} {own : List (Str × Nat)} {wi : DTA} {wg : DTG} {wt : DTT} {we : DTE} {is : List Nat} {ui ut ue : Bool} (b : Blk X c Γ tg ifs elt scope is ut ue wg wt we) (hc : X.calm = true) (hN : X.N.Nodup) (hy : X.N[i]? = some y) (hyl : X.env.scope.names.lookup y = some .local)
    (hsw : swapsWith (.ListComp elt [⟨tg, iter, ifs, 0⟩] scope pos) (some (.Name y py')) spos.line X.env = pure true) (hi : DI X c W Γ tg iter k ui wi) (ok : BlkOk X.N X.env.scope scope own) (hv : ∀ i ∈ own.map (·.2), md Γ i = .sh := by decide) (his : ∀ i ∈ is, i ∈ own.map (·.2) := by decide) (hk : k = .rd → (ut || ue) = false := by decide) (hm : md Γ i ≠ .io := by decide) (hlen : i < Γ.length := by decide)
    (hs : ∀ x, foldedSetIterable iter X.env x = pure x := by intro _; rfl) : DS X c W m Γl Γ (.Assign [.Name y py'] (.ListComp elt [⟨tg, iter, ifs, 0⟩] scope pos) spos) (Γ.set i .ow) (wSet i (wLc (own.map (·.2)) wi wg wt we)) := by
  obtain ⟨⟨t, pi, si⟩, mi⟩ := hi
  exact ⟨_, ps_setLc hc hN hy hyl hsw pi ok (fun s H C cl fp => (b.g s H C cl fp).run) (fun s H C cl fp => (b.t s H C cl fp).run) (fun s H C cl fp => (b.e s H C cl fp).can) hs, snd_setO (snd_lc b hv his hk si) hm hlen⟩
/-! a, b = x, y -/
def wPar (i j : Nat) (va : DTA) : DTS := fun E D ε => va E ε fun ds ε1 => match ds with
  | [d, e] => D.nx ((ε1.set i (some d)).set j (some e))
  | _ => False
theorem ds_par (i j : Nat) {kt k2 : Nat} {pt2 px py pt : Pos} (hc : X.calm = true) (hN : X.N.Nodup) (hi : X.N[i]? = some x) (hj : X.N[j]? = some y) (hij : i ≠ j) (hx : X.env.scope.names.lookup x = some .local) (hy : X.env.scope.names.lookup y = some .local) (ha : DA X c W Γ [a, b] u va)
    (hw : swappedStores [.Tuple [.Name x px, .Name y py] kt pt] (.Tuple [a, b] k2 pt2) X.env = pure (some [x, y])) (hmi : md Γ i = .sh := by rfl) (hmj : md Γ j = .sh := by rfl)
    (hs : swapsWithSole [.Tuple [.Name x px, .Name y py] kt pt] (.Tuple [a, b] k2 pt2) pos.line X.env = pure false := by rfl) :
    DS X c W m Γl Γ (.Assign [.Tuple [.Name x px, .Name y py] kt pt] (.Tuple [a, b] k2 pt2) pos) Γ (wPar i j va) := by
  obtain ⟨⟨t, pa, sa⟩, ma⟩ := ha
  refine ⟨_, ps_par hc hN hi hj hij hx hy pa hw hs, fun σ H ε R E D Dn r x p o => ?_⟩
  refine sa σ H ε R E _ _ r x p fun ds ε1 vs H1 R1 p1 r1 s1 l1 => ?_
  match ds, p1, l1 with
  | [d, e], p1, l1 =>
    obtain ⟨v, ws, e1, q1, l2⟩ := l1.inv
    obtain ⟨v', ws', e2, q2, l3⟩ := l2.inv
    have e3 := l3.inv0
    subst e3
    subst e2
    subst e1
    exact ⟨v, v', rfl, o.nx _ H1 _ R1 p1 ((r1.set hmi q1).1.set hmj q2).1 s1.r⟩
/-! x[i] = e -/
def wSetI (i : Nat) (w wj : DTE) : DTS := fun E D ε => w E ε fun y ε1 => isL (sl ε1 i) = true ∧ wj E ε1 fun z ε2 => onS (asI z) fun j => onS (sl ε2 i) fun d => onS (asL d) fun cs => onS (ixN cs.length j) fun n => D.nx (ε2.set i (some (.lst (cs.set n y))))
theorem ds_setI (i : Nat) {wj : DTE} (he : DE X c W Γ e .pu u w) (hj : DE X c W Γ b kb ub wj) (hi : X.N[i]? = some x := by rfl) (hm : md Γ i ≠ .sh := by decide) (hv : Vis X.env.scope x := by first | exact Or.inl rfl | exact Or.inr (Or.inl rfl) | exact Or.inr (Or.inr rfl))
    (hd : (x == ("__debug__" : Str)) = false := by decide) (hcd : (x == ("__classdict__" : Str)) = false := by decide)
    (ha : ∀ v, assign (.Subscript (.Name x p) b tpos) X.env v = (do
      let ov ← holding [v] (eval (.Name x p) X.env)
      let iv ← holding [v, ov] (eval b X.env)
      standAt tpos
      holding [v, ov, iv] (setItem ov iv v)
      release [v, ov, iv] []) := by intro _; rfl)
    (hs : swapsWithSole [.Subscript (.Name x p) b tpos] e pos.line X.env = pure false := by rfl) (hw : swappedStores [.Subscript (.Name x p) b tpos] e X.env = pure none := by rfl) (h1 : (assignEach [.Subscript (.Name x p) b tpos] X.env).map (·.2) = [assign (.Subscript (.Name x p) b tpos) X.env] := by rfl) :
    DS X c W m Γl Γ (.Assign [.Subscript (.Name x p) b tpos] e pos) Γ (wSetI i w wj) := by
  obtain ⟨⟨t, pe, s⟩, _⟩ := he
  obtain ⟨⟨tj, pj, sj⟩, _⟩ := hj
  refine ⟨_, ps_asg pe (pg_sub (pe_var hi hv hd hcd) pj set_list ha) hs hw h1, fun σ H ε R E D Dn r xo q o => ?_⟩
  refine s σ H ε R E _ _ r xo q fun yd ε1 v H1 R1 p1 r1 s1 v1 => ?_
  obtain ⟨hl, p1⟩ := p1
  obtain ⟨cs0, q0, cv0, f1, f2, f3, f4, f5⟩ := r1.ownL hl hm
  refine ⟨.ref q0, f2, sj σ H1 ε1 R1 E _ _ r1 xo p1 fun zd ε2 vz H2 R2 p2 r2 s2 v2 => ?_⟩
  obtain ⟨jz, hjz, p3⟩ := onS_inv p2
  have := asI_inv hjz
  subst this
  obtain ⟨d, hd2, p4⟩ := onS_inv p3
  obtain ⟨cs, hcs, p5⟩ := onS_inv p4
  have := asL_inv hcs
  subst this
  obtain ⟨n, hn, p6⟩ := onS_inv p5
  obtain ⟨q1, cv, e1, e2, e3, e4, _⟩ := r2.own i cs hd2 hm
  have eq : q1 = q0 := by rw [f2] at e1; injection e1 with z; injection z with z; injection z with z; exact z.symm
  subst eq
  obtain ⟨r3, s3⟩ := r2.rewrite hd2 hm f2 e3 (e4.set n (At.mono s2.r yd v v1))
  exact ⟨q1, cv, jz, n, rfl, v2.rdv.int, e2, by rw [← e4.len]; exact hn, o.nx _ _ _ R2 p6 r3 (s1.r.trans s2.r)⟩
/-! an expression; return -/
def wExpr (w : DTE) : DTS := fun E D ε => w E ε fun _ ε1 => D.nx ε1
theorem ds_expr (he : DE X c W Γ e k u w) (hs : swapsWith e none pos.line X.env = pure false := by rfl) : DS X c W m Γl Γ (.Expr e pos) Γ (wExpr w) := by
  obtain ⟨⟨t, pe, s⟩, _⟩ := he
  exact ⟨_, ps_expr pe hs, fun σ H ε R E D Dn r xo q o => s σ H ε R E _ _ r xo q fun yd ε1 v H1 R1 p1 r1 s1 v1 => o.nx σ H1 ε1 R1 p1 r1 s1.r⟩
def wRet (w : DTE) : DTS := fun E D ε => w E ε D.rt
theorem ds_ret (he : DE X c W Γ e .pu u w) : DS X c W .pu Γl Γ (.Return (some e) pos) Γ' (wRet w) := by
  obtain ⟨⟨t, pe, s⟩, _⟩ := he
  exact ⟨_, ps_ret pe, fun σ H ε R E D Dn r xo q o => s σ H ε R E _ _ r xo q fun yd ε1 v H1 R1 p1 r1 s1 v1 => o.rt Γ σ H1 ε1 R1 yd v p1 r1 v1⟩
theorem ds_retF (he : DE X c W Γ e .fr u w) : DS X c W .fr Γl Γ (.Return (some e) pos) Γ' (wRet w) := by
  obtain ⟨⟨t, pe, s⟩, _⟩ := he
  refine ⟨_, ps_ret pe, fun σ H ε R E D Dn r xo q o => s σ H ε R E _ _ r xo q fun yd ε1 v H1 R1 p1 r1 s1 v1 => o.rt Γ σ H1 ε1 R1 yd v p1 r1 ⟨v1.1, fun ds e => ?_⟩⟩
  obtain ⟨qa, vs, f1, f2, f3, f4, f5, _⟩ := v1.2 ds e
  exact ⟨qa, vs, f1, f2, f3, f4, r.dom _ f5⟩
/-- an owned list is given back -/
theorem ds_retO (i : Nat) (hi : X.N[i]? = some x := by rfl) (hm : md Γ i = .ow := by rfl) (hv : Vis X.env.scope x := by first | exact Or.inl rfl | exact Or.inr (Or.inl rfl) | exact Or.inr (Or.inr rfl)) (hd : (x == ("__debug__" : Str)) = false := by decide) (hcd : (x == ("__classdict__" : Str)) = false := by decide) :
    DS X c W .fr Γl Γ (.Return (some (.Name x p)) pos) Γ' (wRet (wV i)) := by
  refine ⟨_, ps_ret (pe_var hi hv hd hcd), fun σ H ε R E D Dn r xo q o => ?_⟩
  obtain ⟨d, hd2, q⟩ := wV_inv q
  rcases isL_cases d with ⟨ds, el⟩ | el
  · subst el
    have hm' : md Γ i ≠ .sh := by rw [hm]; decide
    obtain ⟨qa, vs, f1, f2, f3, f4, f5⟩ := r.own i ds hd2 hm'
    refine ⟨.ref qa, f1, o.rt Γ σ H ε R _ _ q r ⟨fun z => (nomatch z), fun es e => ?_⟩⟩
    cases e
    refine ⟨qa, vs, rfl, f2, f3, f4, ?_⟩
    rcases f5 with f5 | f5
    · exact f5
    · obtain ⟨z1, z2⟩ := r.io qa f5
      have e0 := r.sep 0 i qa z2 ⟨hm', by rw [hd2]; rfl, f1⟩
      subst e0
      rw [hm] at z1; cases z1
  · obtain ⟨v, h1, h2⟩ := r.pure i d hd2 (.inr el)
    exact ⟨v, h1, o.rt Γ σ H ε R _ _ q r ⟨fun _ => h2, fun ds e => by subst e; cases el⟩⟩
/-- no list is given back -/
def wRetN (w : DTE) : DTS := fun E D ε => w E ε fun d ε1 => isL (some d) = false ∧ D.rt d ε1
theorem ds_retN (he : DE X c W Γ e .pu u w) : DS X c W .fr Γl Γ (.Return (some e) pos) Γ' (wRetN w) := by
  obtain ⟨⟨t, pe, s⟩, _⟩ := he
  exact ⟨_, ps_ret pe, fun σ H ε R E D Dn r xo q o => s σ H ε R E _ _ r xo q fun yd ε1 v H1 R1 p1 r1 s1 v1 => o.rt Γ σ H1 ε1 R1 yd v p1.2 r1 ⟨fun _ => v1, fun ds e => by have := p1.1; subst e; cases this⟩⟩
def wRet0 : DTS := fun _ D ε => D.rt .non ε
theorem ds_ret0 (hm : m ≠ .rd := by decide) : DS X c W m Γl Γ (.Return none pos) Γ' wRet0 :=
  ⟨_, ps_retN, fun σ H ε R E D Dn r xo q o => o.rt Γ σ H ε R _ _ q r (by
    cases m with
    | pu => exact (show At X.K R .non .non from at_non)
    | fr => exact ⟨fun _ => (show At X.K R .non .non from at_non), fun ds e => nomatch e⟩
    | rd => exact absurd rfl hm)⟩
/-! if, for, while -/
def wIf (vt : DTT) (v1 v2 : DTS) : DTS := fun E D ε => vt E ε fun b ε1 => if b = true then v1 E D ε1 else v2 E D ε1
theorem ds_if (ht : DT X c W Γ e u vt) (h1 : DSs X c W m Γl Γ sts Γ' v1) (h2 : DSs X c W m Γl Γ sts' Γ' v2) : DS X c W m Γl Γ (.If e sts sts' pos) Γ' (wIf vt v1 v2) := by
  obtain ⟨⟨t, pe, s⟩, _⟩ := ht
  obtain ⟨t1, p1, s1⟩ := h1
  obtain ⟨t2, p2, s2⟩ := h2
  refine ⟨_, ps_if pe p1 p2, fun σ H ε R E D Dn r xo q o => s σ H ε R E _ _ r xo q fun b ε1 H1 R1 q1 r1 st => ?_⟩
  cases b with
  | true =>
    simp only [if_true] at q1
    exact iteT (s1 σ H1 ε1 R1 E D Dn r1 xo q1 (o.on st.r))
  | false =>
    simp only [Bool.false_eq_true, if_false] at q1
    exact iteF (s2 σ H1 ε1 R1 E D Dn r1 xo q1 (o.on st.r))
def forLoop (wg : DTG) (wb : DTS) (E : DEx) (D0 : DEnds) : List D → DEnv → Prop
  | [], ε => D0.nx ε
  | d :: r, ε => wg d ε fun ε2 => wb E { D0 with nx := forLoop wg wb E D0 r, ct := forLoop wg wb E D0 r, bk := D0.nx } ε2
def wFor (wi : DTA) (wg : DTG) (wb : DTS) : DTS := fun E D ε => wi E ε fun ds ε1 => forLoop wg wb E D ds ε1
theorem ds_for {tg iter : Expr} {wi : DTA} {wg : DTG} {is : List Nat} (hp : PassesOwn (model X.prog X.w) X.A X.env X.xe) (hc : X.calm = true) (hi : DI X c W Γ tg iter .pu u wi) (hg : DG X c Γ tg is wg) (hb : DSs X c W m Γ Γ body Γ vb')
    (hs : ∀ x, foldedSetIterable iter X.env x = pure x := by intro _; rfl) : DS X c W m Γl Γ (.For tg iter body [] pos) Γ (wFor wi wg vb') := by
  obtain ⟨⟨t, pi, si⟩, mi⟩ := hi
  obtain ⟨tb, pb, sb⟩ := hb
  refine ⟨_, ps_for hp hc pi hg.run pb hs, fun σ H ε R E D Dn r xo q o => si σ H ε R E _ _ r xo q fun ds ε1 H1 R1 J p1 r1 s0 wk => ?_⟩
  obtain ⟨G, Y, wlk, hG, hY⟩ := wk
  refine for_it wlk (fun i σ H => ∃ ε R, Rel X.K c Γ σ H ε R ∧ Same R1 R ∧ forLoop wg vb' E D (ds.drop i) ε) ⟨ε1, R1, r1, Same.refl _, by simpa using p1⟩ ?_ ?_ ?_
  · rintro i σ H hi ⟨ε, R, r', g, _⟩
    exact hG R H g r'.sub fun z => nomatch z
  · rintro i x σ Ha Hb hlt ⟨ε, R, r', g, lp⟩ y
    obtain ⟨R2, d, hd, gw, hx⟩ := hY i Ha R x Hb hlt g r'.sub (fun z => nomatch z) y
    have hdrop : ds.drop i = d :: ds.drop (i + 1) := by
      have hlt : i < ds.length := hlt
      rw [List.drop_eq_getElem_cons hlt]
      rw [List.getElem?_eq_getElem hlt] at hd
      injection hd with hd
      rw [hd]
    rw [hdrop] at lp
    unfold forLoop at lp
    have g2 : Same R1 R2 := g.trans gw.r
    refine ⟨ε, R2, d, _, gw.rel r', hx, lp, fun ε2 σ2 q2 r2 _ => ?_⟩
    refine sb σ2 Hb ε2 R2 E _ _ r2 xo q2 ⟨fun σ H ε R n r3 h => ⟨ε, R, r3, g2.trans h, n⟩, o.rt, fun σ H ε R n r3 h => o.nx σ H ε R n r3 ((s0.r.trans g2).trans h), fun σ H ε R n r3 h => ⟨ε, R, r3, g2.trans h, n⟩⟩
  · rintro σ H ⟨ε, R, r', g, lp⟩
    rw [List.drop_length] at lp
    exact o.nx σ H ε R lp r' (s0.r.trans g)
/-- the turns of a while: at most n -/
def whLoop (vt : DTT) (wb : DTS) (E : DEx) (D0 : DEnds) : Nat → DEnv → Prop
  | 0, _ => False
  | n + 1, ε => vt E ε fun b ε1 => if b = true then wb E { D0 with nx := whLoop vt wb E D0 n, ct := whLoop vt wb E D0 n, bk := D0.nx } ε1 else D0.nx ε1
def wWhile (vt : DTT) (wb : DTS) : DTS := fun E D0 ε => ∃ n, whLoop vt wb E D0 n ε
theorem ds_while (hp : PassesOwn (model X.prog X.w) X.A X.env X.xe) (ht : DT X c W Γ e u vt) (hb : DSs X c W m Γ Γ body Γ vb') : DS X c W m Γl Γ (.While e body [] pos) Γ (wWhile vt vb') := by
  obtain ⟨⟨t, pe, s⟩, _⟩ := ht
  obtain ⟨tb, pb, sb⟩ := hb
  refine ⟨_, ps_while hp pe pb, fun σ H ε R E D Dn r xo q o => ?_⟩
  obtain ⟨n0, q⟩ := q
  refine ⟨fun n σ H => ∃ ε R', Rel X.K c Γ σ H ε R' ∧ Same R R' ∧ whLoop vt vb' E D n ε, ⟨n0, ε, R, r, Same.refl _, q⟩, fun n σ H ⟨ε1, R1, r1, g1, q1⟩ => ?_⟩
  cases n with
  | zero => exact (q1 : False).elim
  | succ n =>
    unfold whLoop at q1
    refine s σ H ε1 R1 E _ _ r1 xo q1 fun b ε2 H2 R2 q2 r2 s2 => ?_
    have g2 := g1.trans s2.r
    cases b with
    | true =>
      simp only [if_true] at q2
      refine iteT ⟨fun σ H => ∃ ε R', Rel X.K c Γ σ H ε R' ∧ Same R R' ∧ whLoop vt vb' E D n ε, fun σ' H' h => ⟨n, Nat.lt_succ_self n, h⟩, ?_⟩
      exact sb σ H2 ε2 R2 E _ _ r2 xo q2 ⟨fun σ H ε R n r3 h => ⟨ε, R, r3, g2.trans h, n⟩, o.rt, fun σ H ε R n r3 h => o.nx σ H ε R n r3 (g2.trans h), fun σ H ε R n r3 h => ⟨ε, R, r3, g2.trans h, n⟩⟩
    | false =>
      simp only [Bool.false_eq_true, if_false] at q2
      exact iteF (o.nx σ H2 ε2 R2 q2 r2 g2)
def wBreak : DTS := fun _ D ε => D.bk ε
def wCont : DTS := fun _ D ε => D.ct ε
theorem ds_pass : DS X c W m Γl Γ (.Pass pos) Γ wNext := ⟨_, ps_pass, fun σ H ε R E D Dn r xo q o => o.nx σ H ε R q r (Same.refl _)⟩
theorem ds_break : DS X c W m Γ Γ (.Break pos) Γ' wBreak := ⟨_, ps_break, fun σ H ε R E D Dn r xo q o => o.bk σ H ε R q r (Same.refl _)⟩
theorem ds_continue : DS X c W m Γ Γ (.Continue pos) Γ' wCont := ⟨_, ps_continue, fun σ H ε R E D Dn r xo q o => o.ct σ H ε R q r (Same.refl _)⟩
/-- it is not come to -/
def wNever : DTS := fun _ _ _ => False
theorem ds_never : DS X c W m Γl Γ st Γ' wNever := ⟨_, ps_never, fun σ H ε R E D Dn r xo q o => q.elim⟩
theorem dss_never : DSs X c W m Γl Γ sts Γ' wNever := ⟨_, pss_never, fun σ H ε R E D Dn r xo q o => q.elim⟩
end
/-! ### a def by its body -/
/-- what the changed list holds -/
def ioD (ε : DEnv) : D := (sl ε 0).getD .non
def startD (n : Nat) (ds : List D) : DEnv := ds.map some ++ List.replicate (n - ds.length) none
def md0 (io : Bool) (n : Nat) : List Md := match io with
  | true => .io :: List.replicate (n - 1) .sh
  | false => List.replicate n .sh
theorem md0_at (io : Bool) (n i : Nat) : md (md0 io n) i = if io = true ∧ i = 0 then .io else .sh := by
  have rep : ∀ j k, (List.replicate k Md.sh).getD j .sh = .sh := fun j k => by
    show ((List.replicate k Md.sh)[j]?).getD .sh = .sh
    rw [List.getElem?_replicate]
    by_cases h : j < k
    · rw [if_pos h]; rfl
    · rw [if_neg h]; rfl
  cases io with
  | false =>
    rw [if_neg (by intro h; exact Bool.false_ne_true h.1)]
    exact rep i n
  | true =>
    cases i with
    | zero => rw [if_pos ⟨rfl, rfl⟩]; rfl
    | succ i =>
      rw [if_neg (by intro h; exact Nat.succ_ne_zero i h.2)]
      exact rep i (n - 1)
section
variable {P : Program} {w : World} {K : PySem.W.Frag} {mg : Str → Option Value} {base : Heap}
/-- the body's reading, from the arguments -/
def bodyD (n : Nat) (v : DTS) : DFn := fun ds EF PF => v (fun C ns es ε => EF C ns es (ioD ε)) ⟨fun ε => PF .non (ioD ε), fun d ε => PF d (ioD ε), fun _ => False, fun _ => False⟩ (startD n ds)
theorem sl_start {n : Nat} {ds : List D} {i : Nat} {d : D} (h : sl (startD n ds) i = some d) : ds[i]? = some d := by
  have h' : ((startD n ds)[i]?).getD none = some d := h
  unfold startD at h'
  by_cases hl : i < ds.length
  · rw [List.getElem?_append_left (by rw [List.length_map]; exact hl), List.getElem?_map, List.getElem?_eq_getElem hl] at h'
    rw [List.getElem?_eq_getElem hl]
    exact h'
  · rw [List.getElem?_append_right (by rw [List.length_map]; exact Nat.le_of_not_lt hl), List.getElem?_replicate] at h'
    split at h' <;> cases h'
theorem start_get {N : List Str} {vs : List V} {i : Nat} {v : V} (h : vs[i]? = some v) : (L2.start N vs)[i]? = some (some v) := by
  unfold L2.start
  have hl : i < vs.length := (List.getElem?_eq_some_iff.mp h).1
  rw [List.getElem?_append_left (by rw [List.length_map]; exact hl), List.getElem?_map, h]; rfl
theorem rel_start {c : Ctx} {io : Bool} {N : List Str} {ds : List D} {vs : List V} (s : Same c.R0 c.H0) (ha : ArgsOK K io c ds vs) : Rel K c (md0 io N.length) (L2.start N vs) c.H0 (startD N.length ds) c.R0 ∧ ds.length = vs.length := by
  cases io with
  | false =>
    obtain ⟨hio, l⟩ := ha
    have hm : ∀ i, md (md0 false N.length) i = .sh := fun i => by rw [md0_at, if_neg (by intro h; exact Bool.false_ne_true h.1)]
    refine ⟨⟨?_, fun i d h _ => ?_, fun i ds h m => absurd (hm i) m, fun i j p h1 => absurd (hm i) h1.1, fun p hp => ?_, fun i h => ?_, s, Same.refl _, fun _ _ _ h => h, fun _ _ h => .inl h, fun _ h => h⟩, l.len⟩
    · unfold L2.start startD; simp [l.len]
    · obtain ⟨v, h1, h2⟩ := l.get (sl_start h)
      exact ⟨v, start_get h1, h2⟩
    · rw [hio] at hp; cases hp
    · rw [hm i] at h; cases h
  | true =>
    obtain ⟨p, us, cs, cv, es, hio, rfl, rfl, h1, h2, h3, l⟩ := ha
    have hm : ∀ i, md (md0 true N.length) i = if i = 0 then .io else .sh := fun i => by
      rw [md0_at]
      by_cases e : i = 0
      · rw [if_pos ⟨rfl, e⟩, if_pos e]
      · rw [if_neg (by intro h; exact e h.2), if_neg e]
    have hm1 : ∀ i, md (md0 true N.length) i ≠ .sh → i = 0 := fun i h => by
      rw [hm i] at h
      by_cases e : i = 0
      · exact e
      · rw [if_neg e] at h; exact absurd rfl h
    have s0 : sl (startD N.length (.lst cs :: es)) 0 = some (.lst cs) := rfl
    have g0 : (L2.start N (.ref p :: us))[0]? = some (some (.ref p)) := start_get rfl
    refine ⟨⟨?_, fun i d h m => ?_, fun i ds h m => ?_, fun i j q h1 h2 => ?_, fun q hq => ?_, fun i h => ?_, s, Same.refl _, fun _ _ _ h => h, fun _ _ h => .inl h, fun _ h => h⟩, by rw [List.length_cons, List.length_cons, l.len]⟩
    · unfold L2.start startD; simp [l.len]
    · cases i with
      | zero =>
        rw [s0] at h
        injection h with h
        subst h
        rcases m with m | m
        · rw [hm 0, if_pos rfl] at m; cases m
        · cases m
      | succ i =>
        have := sl_start h
        obtain ⟨v, f1, f2⟩ := l.get (i := i) (by simpa using this)
        exact ⟨v, start_get (by simpa using f1), f2⟩
    · have e := hm1 i m
      subst e
      rw [s0] at h
      injection h with h
      injection h with h
      subst h
      exact ⟨p, cv, g0, h1, h2, h3, .inr hio⟩
    · rw [hm1 i h1.1, hm1 j h2.1]
    · rw [hio] at hq
      injection hq with hq
      subst hq
      have m0 : md (md0 true N.length) 0 = .io := by rw [hm 0, if_pos rfl]
      exact ⟨m0, by rw [m0]; decide, by rw [s0]; rfl, g0⟩
    · rw [hm i] at h
      by_cases e : i = 0
      · exact ⟨e, p, hio⟩
      · rw [if_neg e] at h; cases h
theorem Rel.out {c : Ctx} {Γ : List Md} {σ : St} {H R : Hp} {ε : DEnv} (r : Rel K c Γ σ H ε R) : Out K c H R (ioD ε) := by
  refine ⟨r.sub, r.r0, r.e1, r.e2, r.dom, fun p hp => ?_⟩
  obtain ⟨z1, z2⟩ := r.io p hp
  obtain ⟨ds, vs, h1, h2, h3, h4, _⟩ := r.ownH z2
  exact ⟨ds, vs, by unfold ioD; rw [h1]; rfl, h2, h3, h4⟩
theorem fn_dl {x qual : Str} {st : Stmt} {f : Addr} {fd : FuncData} {N ps : List Str} {k : Nat} {io : Bool} {m : Kd} {φ : DFn} {Γ' : List Md} {v : DTS} (F : Fun K x qual st f fd) (S : FnScope N ps (defScope st))
    (hφ : ∀ ds EF PF, φ ds EF PF → ds.length = ps.length ∧ bodyD N.length v ds EF PF) (hm : m ≠ .rd)
    (hbody : ∀ (cdv : Value) (A : Around) (outer : List Env) (s : Shared) (H : Hp) (E : XK) (c : Ctx), Room k (A.deeper (envOfC qual (defScope st) s.heap.objs.size f cdv)) →
      DSs (cxOf (L2.CX P w) P w K mg base N qual (defScope st) f cdv A outer s H E) c (fun cls d _ H => E cls d H) m (md0 io N.length) (md0 io N.length) (defBody st) Γ' v) : FnOk P w K mg base (L2.CX P w) (k + 1) f fd ps (spD K io m φ) := by
  refine F.okX S (fun vs H Q E h => ?_) (fun cdv A outer s H vs Q E hr h => ?_)
  · obtain ⟨c, ds, EF, PF, rfl, hs, ha, hp, _⟩ := h
    have := (rel_start (N := N) hs ha).2
    rw [← this]
    exact (hφ _ _ _ hp).1
  · obtain ⟨c, ds, EF, PF, rfl, hs, ha, hp, hQ, hE⟩ := h
    obtain ⟨t, p, sd⟩ := hbody cdv A outer s c.H0 E c hr
    refine ⟨t, p, ?_⟩
    obtain ⟨r, _⟩ := rel_start (N := N) hs ha
    refine sd _ _ _ _ _ _ _ r ?_ (hφ _ _ _ hp).2 ?_
    · intro Γ σ H ε R C ns es d vs' he r' h1 h2 h3
      exact hE C ns es _ d vs' H R he r'.out h1 h2 h3
    · refine ⟨fun σ H ε R n r' _ => hQ _ _ _ H R n r'.out ?_, fun Γ σ H ε R d v n r' rv => hQ _ _ _ H R n r'.out rv, fun σ H ε R n r' _ => n.elim, fun σ H ε R n r' _ => n.elim⟩
      cases m with
      | pu => exact (show At K R .non .non from at_non)
      | fr => exact ⟨fun _ => (show At K R .non .non from at_non), fun ds e => nomatch e⟩
      | rd => exact absurd rfl hm
end
end DL
set_option Elab.async false
set_option linter.all false
set_option maxRecDepth 100000
set_option maxHeartbeats 1000000
/-! one of two new lists; an owned list lent to a call -/
namespace DL
open PySem PySem.Spec L2
open PyProof.Rows hiding St
theorem hu64 {A : Around} {k : Nat} (hr : Room k A) : A.units + 64 < cLine := by have := hr.un; omega
section
variable {X : Cx} {c : Ctx} {W : WX} {Γ : List Md} {a b e e' : Expr} {es rest : List Expr} {k ka kb kc : Kd} {u ua ub uc : Bool} {w wa wb wc : DTE} {va vb : DTA} {vt : DTT} {pos pos' p p2 p3 p4 : Pos} {x y : Str}
/-! [a, b][i]: one of the two, out of hand as it is -/
def wPick (wa wb wi : DTE) : DTE := fun E ε P => wa E ε fun d1 ε1 => wb E ε1 fun d2 ε2 => wi E ε2 fun z ε3 => onS (asI z) fun i => onS (atI [d1, d2] i) fun d => P d ε3
theorem Val.fr_on {σ : St} {Hs H R H' R' : Hp} {ε ε' : DEnv} {d : D} {v : V} (h : Val X.K Γ σ Hs ε R H d v .fr) (s : Stp u Γ σ ε R H ε' R' H') (i : ∀ a, Hs a = none → True) : Val X.K Γ σ Hs ε' R' H' d v .fr := by
  refine ⟨fun z => At.mono s.r d v (h.1 z), fun ds e => ?_⟩
  obtain ⟨q, vs, e1, e2, e3, e4, e5, e6⟩ := h.2 ds e
  refine ⟨q, vs, e1, s.h _ _ e6 e2, ?_, AtL.mono s.r ds vs e4, e5, fun j z => e6 j (s.own.mp z)⟩
  cases z : R' q with
  | none => rfl
  | some o =>
    rcases s.n _ _ z with z2 | z2
    · rw [e3] at z2; cases z2
    · rw [e2] at z2; cases z2
theorem de_pick (ha : DE X c W Γ a .fr ua wa) (hb : DE X c W Γ b .fr ub wb) (hi : DE X c W Γ e k u w) (hs : PlainIx e) (he : starEach [a, b] X.env = (false, eval a X.env) :: starEach [b] X.env := by rfl) (he2 : starEach [b] X.env = (false, eval b X.env) :: starEach [] X.env := by rfl) :
    DE X c W Γ (.Subscript (.List [a, b] p) e pos) .fr (ua || (ub || u)) (wPick wa wb w) := by
  obtain ⟨⟨ta, pa, sa⟩, ma⟩ := ha
  obtain ⟨⟨tb, pb, sb⟩, mb⟩ := hb
  obtain ⟨⟨ti, pi, si⟩, mi⟩ := hi
  refine ⟨⟨_, pe_ix ix_seq (pe_lst (pa_cons pa (pa_cons pb pa_nil he2) he)) pi hs, fun σ H ε R E P Q r xo q o => ?_⟩, fun E ε P P' h p => ma _ _ _ _ (fun _ _ q => mb _ _ _ _ (fun _ _ q => mi _ _ _ _ (fun _ _ q => onS_mono (fun _ q => onS_mono (fun _ q => h _ _ q) q) q) q) q) p⟩
  refine sa σ H ε R E _ _ r xo q fun d1 ε1 v1 H1 R1 p1 r1 s1 f1 => ?_
  refine sb σ H1 ε1 R1 E _ _ r1 xo p1 fun d2 ε2 v2 H2 R2 p2 r2 s2 f2 => ⟨by rw [sizeLine_eq]; show 2 ≤ 16777216; decide, fun l hl => ?_⟩
  have g : Gw R2 H2 R2 (upd H2 l (.lst [v1, v2])) := Gw.own r2.sub hl
  have r3 := g.rel r2
  have t3 : Stp false Γ σ ε2 R2 H2 ε2 R2 (upd H2 l (.lst [v1, v2])) := g.stp
  refine si σ _ ε2 R2 E _ _ r3 xo p2 fun z ε4 v4 H4 R4 p4 r4 s4 f4 => ?_
  obtain ⟨i, hi, p5⟩ := onS_inv p4
  have := asI_inv hi
  subst this
  obtain ⟨d, hd, p6⟩ := onS_inv p5
  have nl : ∀ j, ¬ OwnAt Γ σ ε2 j l := fun j z => by
    obtain ⟨_, _, _, h1, _⟩ := r2.ownH z
    rw [hl] at h1; cases h1
  have hl4 : H4 l = some (.lst [v1, v2]) := s4.h _ _ nl upd_same
  have f1' : Val X.K Γ σ H ε4 R4 H4 d1 v1 .fr := ((f1.fr_on s2 fun _ _ => trivial).fr_on t3 fun _ _ => trivial).fr_on s4 fun _ _ => trivial
  have f2' : Val X.K Γ σ H1 ε4 R4 H4 d2 v2 .fr := (f2.fr_on t3 fun _ _ => trivial).fr_on s4 fun _ _ => trivial
  have f2'' : Val X.K Γ σ H ε4 R4 H4 d2 v2 .fr := val_on f2' s1.d
  have st : Stp (ua || (ub || u)) Γ σ ε R H ε4 R4 H4 := by
    have := s1.trans (s2.trans (t3.trans s4))
    rwa [Bool.false_or] at this
  have key : ∃ v, atI [v1, v2] i = some v ∧ Val X.K Γ σ H ε4 R4 H4 d v .fr := by
    unfold atI at hd ⊢
    have hlen : ([d1, d2] : List D).length = ([v1, v2] : List V).length := rfl
    rw [hlen] at hd
    cases hz : ixN ([v1, v2] : List V).length i with
    | none => rw [hz] at hd; cases hd
    | some j =>
      rw [hz] at hd
      match j, hd with
      | 0, hd =>
        have hd' : some d1 = some d := hd
        injection hd' with hd'; subst hd'
        exact ⟨v1, rfl, f1'⟩
      | 1, hd =>
        have hd' : some d2 = some d := hd
        injection hd' with hd'; subst hd'
        exact ⟨v2, rfl, f2''⟩
      | j + 2, hd => cases hd
  obtain ⟨v, hv, hf⟩ := key
  exact .inl ⟨l, [v1, v2], i, v, rfl, f4.rdv.int, .inl (.inl hl4), hv, o d ε4 v H4 R4 p6 r4 st hf⟩
/-! ### an owned list lent to a call that only reads it -/
mutual
/-- no list within -/
def noL : D → Bool
  | .non => true
  | .bl _ => true
  | .int _ => true
  | .str _ => true
  | .tup ds => noLL ds
  | .lst _ => false
  | .frz _ => false
  | .ins _ _ _ _ => false
  | .dic _ _ => false
  | .ref _ => true
def noLL : List D → Bool
  | [] => true
  | d :: ds => noL d && noLL ds
end
/-- .. but it itself -/
def noLt : D → Bool
  | .lst ds => noLL ds
  | d => noL d
def minus (R : Hp) (q : Addr) : Hp := fun a => if a = q then none else R a
theorem minus_ne {R : Hp} {q a : Addr} (h : a ≠ q) : minus R q a = R a := if_neg h
theorem minus_self {R : Hp} {q : Addr} : minus R q q = none := if_pos rfl
mutual
theorem noL_at {K : PySem.W.Frag} {R : Hp} {q : Addr} {xs : List V} (hq : R q = some (.lst xs)) : ∀ (d : D) (v : V), noL d = true → At K R d v → At K (minus R q) d v
  | .non, _, _, h => h
  | .bl _, _, _, h => h
  | .int _, _, _, h => h
  | .str _, _, _, h => h
  | .ref _, _, _, h => h
  | .tup ds, v, n, h => by
    unfold noL at n
    unfold At at h ⊢
    obtain ⟨a, vs, e, s, l⟩ := h
    refine ⟨a, vs, e, ?_, noLL_at hq ds vs n l⟩
    rcases s with (s | ⟨o, s⟩) | s
    · have ne : a ≠ q := fun z => by subst z; rw [hq] at s; cases s
      exact .inl (.inl (by rw [minus_ne ne]; exact s))
    · have ne : a ≠ q := fun z => by subst z; rw [hq] at s; cases s
      exact .inl (.inr ⟨o, by rw [minus_ne ne]; exact s⟩)
    · exact .inr s
  | .lst ds, _, n, _ => by unfold noL at n; cases n
  | .frz ds, _, n, _ => by unfold noL at n; cases n
  | .ins _ _ _ ds, _, n, _ => by unfold noL at n; cases n
  | .dic _ ds, _, n, _ => by unfold noL at n; cases n
theorem noLL_at {K : PySem.W.Frag} {R : Hp} {q : Addr} {xs : List V} (hq : R q = some (.lst xs)) : ∀ (ds : List D) (vs : List V), noLL ds = true → AtL K R ds vs → AtL K (minus R q) ds vs
  | [], _, _, h => h
  | d :: ds, vs, n, h => by
    unfold noLL at n
    rw [Bool.and_eq_true] at n
    obtain ⟨v, ws, e, q1, l⟩ := h.inv
    subst e
    exact AtL.cons (noL_at hq d v n.1 q1) (noLL_at hq ds ws n.2 l)
end
/-- what stands at slot i is handed in first, read only; if it is a list: nothing of what comes back may hold a list (but itself be a new one) -/
def wCallL (φ : DFn) (i : Nat) (v : DTA) : DTE := fun E ε P => (∃ d, sl ε i = some d) ∧ v E ε fun ds ε1 => onS (sl ε1 i) fun d => φ (d :: ds) (fun _ _ _ _ => False) fun r _ => (isL (some d) = true → noLt r = true) ∧ P r ε1
theorem de_callL (i : Nat) {n : Nat} {f : Addr} {fd : FuncData} {ps : List Str} {φ : DFn} (G : FnOk X.prog X.w X.K X.mg X.base (L2.CX X.prog X.w) n f fd ps (spD X.K false .fr φ)) (hφ : FMono φ) (hr : Room n X.A) (hg : Gl X x) (hmg : X.mg x = some (.ref f)) (hk : PySem.W.keepIn X.K (.ref f) = true)
    (hb : Binds X.K fd ps []) (tk : Takes X W) (ha : DA X c W Γ es u va) (hi : X.N[i]? = some y := by rfl) (hmd : md Γ i ≠ .sh := by decide) (hv : Vis X.env.scope y := by first | exact Or.inl rfl | exact Or.inr (Or.inl rfl) | exact Or.inr (Or.inr rfl)) (hdb : (x == ("__debug__" : Str)) = false := by decide) (hdy : (y == ("__debug__" : Str)) = false := by decide) (hcy : (y == ("__classdict__" : Str)) = false := by decide)
    (he : starEach (.Name y p2 :: es) X.env = (false, eval (.Name y p2) X.env) :: starEach es X.env := by rfl) (hpl : (backTo pos (starEach es X.env)).any (·.1) = false := by rfl) :
    DE X c W Γ (.Call (.Name x p) (.Name y p2 :: es) [] pos) .fr u (wCallL φ i va) := by
  obtain ⟨⟨t, pa, sa⟩, ma⟩ := ha
  refine ⟨⟨_, pe_callS G hr hg hmg hk hb (fun σ => passAt tk σ) (pa_cons (pe_var hi hv hdy hcy) pa he) hdb he hpl, fun σ H ε R E P Q r xo q o => ?_⟩, fun E ε P P' h p => ⟨p.1, ma _ _ _ _ (fun _ _ q => onS_mono (fun _ q => hφ _ _ _ _ (fun _ _ q => ⟨q.1, h _ _ q.2⟩) q) q) p.2⟩⟩
  obtain ⟨⟨d0, hl⟩, q⟩ := q
  obtain ⟨x0, h2, _⟩ := r.has hl
  refine ⟨x0, h2, sa σ H ε R E _ _ r xo q fun ds ε1 vs H1 R1 p1 r1 s1 l1 => ?_⟩
  obtain ⟨d, hd2, p3⟩ := onS_inv p1
  rcases isL_cases d with ⟨cs, el⟩ | el
  · subst el
    obtain ⟨q1, cv, e1, e2, e3, e4, e5⟩ := r1.own i cs hd2 hmd
    have eq : x0 = .ref q1 := by rw [h2] at e1; injection e1 with z; injection z
    subst eq
    have gR : Same R1 (upd R1 q1 (.lst cv)) := same_upd e3
    have sR : Same (upd R1 q1 (.lst cv)) H1 := fun b o' z => by
      by_cases hb : b = q1
      · subst hb; rw [upd_same] at z; cases z; exact e2
      · rw [upd_ne hb] at z; exact r1.sub _ _ z
    refine ⟨⟨upd R1 q1 (.lst cv), H1, none⟩, .lst cs :: ds, _, _, rfl, sR, ⟨rfl, AtL.cons (by unfold At; exact ⟨q1, cv, rfl, upd_same, AtL.mono gR _ _ e4⟩) (AtL.mono gR _ _ l1)⟩, p3, fun z c' v H' R' pz ou rv => ?_, fun C ns es' c' d' vs' H' R' pe _ _ _ _ => pe.elim⟩
    have hq' : R' q1 = some (.lst cv) := ou.r0 _ _ upd_same
    have hH : Same H1 H' := fun a x h => ou.e1 a x (fun z => nomatch z) h
    have g : Gw R1 H1 (minus R' q1) H' := by
      refine ⟨fun a x h => ?_, hH, fun a x h => ?_, fun a x h => ?_⟩
      · have ne : a ≠ q1 := fun z => by subst z; rw [e3] at h; cases h
        rw [minus_ne ne]; exact ou.r0 _ _ (gR _ _ h)
      · by_cases ne : a = q1
        · subst ne; rw [minus_self] at h; cases h
        · rw [minus_ne ne] at h; exact ou.sub _ _ h
      · by_cases ne : a = q1
        · subst ne; rw [minus_self] at h; cases h
        · rw [minus_ne ne] at h
          rcases ou.e2 _ _ h with z | z
          · have z' : upd R1 q1 (.lst cv) a = some x := z
            rw [upd_ne ne] at z'; exact .inl z'
          · exact .inr z
    have s3 := s1.trans (g.stp (Γ := Γ) (σ := σ) (ε := ε1))
    rw [Bool.or_false] at s3
    refine o z ε1 v H' _ pz.2 (g.rel r1) s3 ?_
    have vn : ValN X.K H1 (minus R' q1) H' z v .fr := by
      have pn := pz.1 rfl
      refine ⟨fun nl => ?_, fun ds' e => ?_⟩
      · have h := rv.1 nl
        have n' : noL z = true := by
          cases z with
          | lst _ => cases nl
          | _ => exact pn
        exact noL_at hq' z v n' h
      · subst e
        obtain ⟨qa, vs', f1, f2, f3, f4, f5⟩ := rv.2 ds' rfl
        have ne : qa ≠ q1 := fun z => by subst z; rw [hq'] at f3; cases f3
        exact ⟨qa, vs', f1, f2, by rw [minus_ne ne]; exact f3, noLL_at hq' ds' vs' pn f4, f5⟩
    exact vn.val r1 s1
  · obtain ⟨v0, e1, e2⟩ := r1.pure i d hd2 (.inr el)
    have eq : x0 = v0 := by rw [h2] at e1; injection e1 with z; injection z
    subst eq
    refine ⟨⟨R1, H1, none⟩, d :: ds, _, _, rfl, r1.sub, ⟨rfl, AtL.cons e2 l1⟩, p3, fun z c' v H' R' pz ou rv => ?_, fun C ns es' c' d' vs' H' R' pe _ _ _ _ => pe.elim⟩
    have g := ou.gw rfl rfl rfl
    have s3 := s1.trans (g.stp (Γ := Γ) (σ := σ) (ε := ε1))
    rw [Bool.or_false] at s3
    refine o z ε1 v H' R' pz.2 (g.rel r1) s3 ?_
    have vn : ValN X.K H1 R' H' z v .fr := ⟨rv.1, fun ds e => rv.2 ds e⟩
    exact vn.val r1 s1
theorem DE.rd (h : DE X c W Γ e .pu u w) : DE X c W Γ e .rd u w := by
  obtain ⟨⟨t, pe, s⟩, m⟩ := h
  exact ⟨⟨t, pe, fun σ H ε R E P Q r x p q => s σ H ε R E P Q r x p fun d ε' v H' R' p' r' s' v' => q d ε' v H' R' p' r' s' (.inl v')⟩, m⟩
end
/-! ### promises in short -/
/-- a def that changes nothing: g tells what comes back -/
def fnP (g : List D → D → Prop) : DFn := fun ds _ P => ∃ r, g ds r ∧ ∀ c', P r c'
theorem fnP_mono {g : List D → D → Prop} : FMono (fnP g) := fun _ _ _ _ h ⟨r, q, p⟩ => ⟨r, q, fun c' => h _ _ (p c')⟩
/-- a def that changes its first argument: what comes back, what that is then -/
def fnIo (g : List D → D → D → Prop) : DFn := fun ds _ P => ∃ r c', g ds r c' ∧ P r c'
theorem fnIo_mono {g : List D → D → D → Prop} : FMono (fnIo g) := fun _ _ _ _ h ⟨r, c', q, p⟩ => ⟨r, c', q, h _ _ p⟩
end DL
set_option Elab.async false
set_option linter.all false
set_option maxRecDepth 100000
set_option maxHeartbeats 1000000
/-! readings opened; loops over data; promises -/
namespace DL
open PySem PySem.Spec L2
open PyProof.Rows hiding St
def par2 (ds : List D) (P : D → D → Prop) : Prop := match ds with
  | [d, e] => P d e
  | _ => False
theorem wC_ap (d : D) (E0 : DEx) (ε : DEnv) (P : D → DEnv → Prop) : wC d E0 ε P = (P d ε) := rfl
theorem wSetI_ap (i : Nat) (w wj : DTE) (E : DEx) (D : DEnds) (ε : DEnv) : wSetI i w wj E D ε = (w E ε fun y ε1 => isL (sl ε1 i) = true ∧ wj E ε1 fun z ε2 => onS (asI z) fun j => onS (sl ε2 i) fun d => onS (asL d) fun cs => onS (ixN cs.length j) fun n => D.nx (ε2.set i (some (.lst (cs.set n y))))) := rfl
theorem wExpr_ap (w : DTE) (E : DEx) (D : DEnds) (ε : DEnv) : wExpr w E D ε = (w E ε fun _ ε1 => D.nx ε1) := rfl
theorem wRet_ap (w : DTE) (E : DEx) (D : DEnds) (ε : DEnv) : wRet w E D ε = (w E ε D.rt) := rfl
theorem wRetN_ap (w : DTE) (E : DEx) (D : DEnds) (ε : DEnv) : wRetN w E D ε = (w E ε fun d ε1 => isL (some d) = false ∧ D.rt d ε1) := rfl
theorem wRet0_ap  (E0 : DEx) (D : DEnds) (ε : DEnv) : wRet0  E0 D ε = (D.rt .non ε) := rfl
theorem wIf_ap (vt : DTT) (v1 v2 : DTS) (E : DEx) (D : DEnds) (ε : DEnv) : wIf vt v1 v2 E D ε = (vt E ε fun b ε1 => if b = true then v1 E D ε1 else v2 E D ε1) := rfl
theorem wFor_ap (wi : DTA) (wg : DTG) (wb : DTS) (E : DEx) (D : DEnds) (ε : DEnv) : wFor wi wg wb E D ε = (wi E ε fun ds ε1 => forLoop wg wb E D ds ε1) := rfl
theorem wWhile_ap (vt : DTT) (wb : DTS) (E : DEx) (D0 : DEnds) (ε : DEnv) : wWhile vt wb E D0 ε = (∃ n, whLoop vt wb E D0 n ε) := rfl
theorem wBreak_ap  (E0 : DEx) (D : DEnds) (ε : DEnv) : wBreak  E0 D ε = (D.bk ε) := rfl
theorem wCont_ap  (E0 : DEx) (D : DEnds) (ε : DEnv) : wCont  E0 D ε = (D.ct ε) := rfl
theorem wNever_ap  (E0 : DEx) (K0 : DEnds) (ε0 : DEnv) : wNever  E0 K0 ε0 = (False) := rfl
theorem wPick_ap (wa wb wi : DTE) (E : DEx) (ε : DEnv) (P : D → DEnv → Prop) : wPick wa wb wi E ε P = (wa E ε fun d1 ε1 => wb E ε1 fun d2 ε2 => wi E ε2 fun z ε3 => onS (asI z) fun i => onS (atI [d1, d2] i) fun d => P d ε3) := rfl
theorem wCallL_ap (φ : DFn) (i : Nat) (v : DTA) (E : DEx) (ε : DEnv) (P : D → DEnv → Prop) : wCallL φ i v E ε P = ((∃ d, sl ε i = some d) ∧ v E ε fun ds ε1 => onS (sl ε1 i) fun d => φ (d :: ds) (fun _ _ _ _ => False) fun r _ => (isL (some d) = true → noLt r = true) ∧ P r ε1) := rfl
theorem wOp_ap (o : DOp) (wa wb : DTE) (E : DEx) (ε : DEnv) (P : D → DEnv → Prop) : wOp o wa wb E ε P = (wa E ε fun x ε1 => wb E ε1 fun y ε2 => o x y fun r => P r ε2) := rfl
theorem wIxO_ap (i : Nat) (wb : DTE) (E : DEx) (ε : DEnv) (P : D → DEnv → Prop) : wIxO i wb E ε P = ((∃ d, sl ε i = some d) ∧ wb E ε fun y ε1 => onS (sl ε1 i) fun d => oIx d y fun z => P z ε1) := rfl
theorem wNoPart_ap  (E0 : DEx) (ε : DEnv) (P : Option Int → DEnv → Prop) : wNoPart  E0 ε P = (P none ε) := rfl
theorem wPart_ap (w : DTE) (E : DEx) (ε : DEnv) (P : Option Int → DEnv → Prop) : wPart w E ε P = (w E ε fun d ε1 => onS (asI d) fun i => P (some i) ε1) := rfl
theorem wSl_ap (w : DTE) (l h : DTO) (E : DEx) (ε : DEnv) (P : D → DEnv → Prop) : wSl w l h E ε P = (w E ε fun d ε1 => l E ε1 fun lo ε2 => h E ε2 fun hi ε3 => oSl lo hi d fun z => P z ε3) := rfl
theorem wUn_ap (o : DUn) (w : DTE) (E : DEx) (ε : DEnv) (P : D → DEnv → Prop) : wUn o w E ε P = (w E ε fun d ε1 => o d fun z => P z ε1) := rfl
theorem wTest_ap (w : DTE) (E : DEx) (ε : DEnv) (P : Bool → DEnv → Prop) : wTest w E ε P = (w E ε fun d ε1 => onS (asB d) fun b => P b ε1) := rfl
theorem wChain_ap (o o' : DOp) (wa wb wc : DTE) (E : DEx) (ε : DEnv) (P : D → DEnv → Prop) : wChain o o' wa wb wc E ε P = (wa E ε fun x ε1 => wb E ε1 fun y ε2 => o x y fun z => onS (asB z) fun b => if b = true then wc E ε2 fun w ε3 => o' y w fun r => P r ε3 else P (.bl false) ε2) := rfl
theorem wTru_ap (w : DTE) (E : DEx) (ε : DEnv) (P : Bool → DEnv → Prop) : wTru w E ε P = (w E ε fun d ε1 => onS (truD d) fun b => P b ε1) := rfl
theorem wNotT_ap (v : DTT) (E : DEx) (ε : DEnv) (P : Bool → DEnv → Prop) : wNotT v E ε P = (v E ε fun b ε1 => P (!b) ε1) := rfl
theorem wAndT_ap (v v' : DTT) (E : DEx) (ε : DEnv) (P : Bool → DEnv → Prop) : wAndT v v' E ε P = (v E ε fun b ε1 => if b = true then v' E ε1 P else P false ε1) := rfl
theorem wOrT_ap (v v' : DTT) (E : DEx) (ε : DEnv) (P : Bool → DEnv → Prop) : wOrT v v' E ε P = (v E ε fun b ε1 => if b = true then P true ε1 else v' E ε1 P) := rfl
theorem wAnd_ap (wa wb : DTE) (E : DEx) (ε : DEnv) (P : D → DEnv → Prop) : wAnd wa wb E ε P = (wa E ε fun d ε1 => onS (truD d) fun b => if b = true then wb E ε1 P else P d ε1) := rfl
theorem wOr_ap (wa wb : DTE) (E : DEx) (ε : DEnv) (P : D → DEnv → Prop) : wOr wa wb E ε P = (wa E ε fun d ε1 => onS (truD d) fun b => if b = true then P d ε1 else wb E ε1 P) := rfl
theorem wNot_ap (w : DTE) (E : DEx) (ε : DEnv) (P : D → DEnv → Prop) : wNot w E ε P = (w E ε fun d ε1 => onS (truD d) fun b => P (.bl (!b)) ε1) := rfl
theorem wIfE_ap (v : DTT) (wa wb : DTE) (E : DEx) (ε : DEnv) (P : D → DEnv → Prop) : wIfE v wa wb E ε P = (v E ε fun b ε1 => if b = true then wa E ε1 P else wb E ε1 P) := rfl
theorem wNil_ap  (E0 : DEx) (ε : DEnv) (P : List D → DEnv → Prop) : wNil  E0 ε P = (P [] ε) := rfl
theorem wCons_ap (wa : DTE) (wr : DTA) (E : DEx) (ε : DEnv) (P : List D → DEnv → Prop) : wCons wa wr E ε P = (wa E ε fun d ε1 => wr E ε1 fun ds ε2 => P (d :: ds) ε2) := rfl
theorem wTup_ap (v : DTA) (E : DEx) (ε : DEnv) (P : D → DEnv → Prop) : wTup v E ε P = (v E ε fun ds ε1 => ds.length ≤ sizeLine ∧ P (.tup ds) ε1) := rfl
theorem wLst_ap (v : DTA) (E : DEx) (ε : DEnv) (P : D → DEnv → Prop) : wLst v E ε P = (v E ε fun ds ε1 => ds.length ≤ sizeLine ∧ P (.lst ds) ε1) := rfl
theorem wCall_ap (φ : DFn) (v : DTA) (E : DEx) (ε : DEnv) (P : D → DEnv → Prop) : wCall φ v E ε P = (v E ε fun ds ε1 => φ ds (fun C ns es _ => E C ns es ε1) fun r _ => P r ε1) := rfl
theorem wCall0_ap (φ : DFn) (E : DEx) (ε : DEnv) (P : D → DEnv → Prop) : wCall0 φ E ε P = (φ [] (fun _ _ _ _ => False) fun r _ => P r ε) := rfl
theorem wCallIo_ap (φ : DFn) (i : Nat) (v : DTA) (E : DEx) (ε : DEnv) (P : D → DEnv → Prop) : wCallIo φ i v E ε P = ((∃ d, sl ε i = some d) ∧ v E ε fun ds ε1 => onS (sl ε1 i) fun d => onS (asL d) fun cs => φ (.lst cs :: ds) (fun C ns es c' => E C ns es (ε1.set i (some c'))) fun r c' => P r (ε1.set i (some c'))) := rfl
theorem wYes_ap  (E0 : DEx) (ε : DEnv) (P : Bool → DEnv → Prop) : wYes  E0 ε P = (P true ε) := rfl
theorem wGn_ap (i : Nat) (d : D) (ε : DEnv) (P : DEnv → Prop) : wGn i d ε P = (P (ε.set i (some d))) := rfl
theorem wSr_ap (w : DTE) (E : DEx) (ε : DEnv) (P : List D → DEnv → Prop) : wSr w E ε P = (w E ε fun d ε1 => onS (itD d) fun ds => P ds ε1) := rfl
theorem wEn_ap (w : DTE) (E : DEx) (ε : DEnv) (P : List D → DEnv → Prop) : wEn w E ε P = (w E ε fun d ε1 => onS (itD d) fun ds => P (enD 0 ds) ε1) := rfl
theorem wZp_ap (wa wb : DTE) (E : DEx) (ε : DEnv) (P : List D → DEnv → Prop) : wZp wa wb E ε P = (wa E ε fun d ε1 => wb E ε1 fun e ε2 => onS (itD d) fun ds => onS (itD e) fun es => P (zpD ds es) ε2) := rfl
theorem wRg1_ap (w : DTE) (E : DEx) (ε : DEnv) (P : List D → DEnv → Prop) : wRg1 w E ε P = (w E ε fun d ε1 => onS (asI d) fun j => in62 j ∧ P (rgD 0 j.toNat) ε1) := rfl
theorem wRg2_ap (wa wb : DTE) (E : DEx) (ε : DEnv) (P : List D → DEnv → Prop) : wRg2 wa wb E ε P = (wa E ε fun d ε1 => wb E ε1 fun e ε2 => onS (asI d) fun i => onS (asI e) fun j => in62 i ∧ in62 j ∧ P (rgD i (j - i).toNat) ε2) := rfl
theorem wLc_ap (vs : List Nat) (wi : DTA) (wg : DTG) (wt : DTT) (we : DTE) (E : DEx) (ε : DEnv) (P : D → DEnv → Prop) : wLc vs wi wg wt we E ε P = (wi E ε fun ds ε1 => ds.length ≤ sizeLine ∧ lcLoop vs wg wt we ds (wipeE ε1 vs) [] fun acc εb => P (.lst acc) (restE ε1 εb vs)) := rfl
theorem wMeth_ap (i : Nat) (w : DTE) (f : List D → D → (List D → Prop) → Prop) (E : DEx) (ε : DEnv) (P : D → DEnv → Prop) : wMeth i w f E ε P = (isL (sl ε i) = true ∧ w E ε fun y ε1 => onS (sl ε1 i) fun d => onS (asL d) fun cs => f cs y fun cs' => P .non (ε1.set i (some (.lst cs')))) := rfl
theorem wMeth0_ap (i : Nat) (f : List D → List D) (E0 : DEx) (ε : DEnv) (P : D → DEnv → Prop) : wMeth0 i f E0 ε P = (onS (sl ε i) fun d => onS (asL d) fun cs => P .non (ε.set i (some (.lst (f cs))))) := rfl
theorem wNext_ap  (E0 : DEx) (D : DEnds) (ε : DEnv) : wNext  E0 D ε = (D.nx ε) := rfl
theorem wSeq_ap (v1 v2 : DTS) (E : DEx) (D : DEnds) (ε : DEnv) : wSeq v1 v2 E D ε = (v1 E { D with nx := v2 E D } ε) := rfl
theorem wAsg_ap (w : DTE) (g : DTG) (E : DEx) (D : DEnds) (ε : DEnv) : wAsg w g E D ε = (w E ε fun d ε1 => g d ε1 D.nx) := rfl
theorem wSet_ap (i : Nat) (w : DTE) (E : DEx) (D : DEnds) (ε : DEnv) : wSet i w E D ε = (w E ε fun d ε1 => D.nx (ε1.set i (some d))) := rfl
theorem wV_ap (i : Nat) (E : DEx) (ε : DEnv) (P : D → DEnv → Prop) : wV i E ε P = onS (sl ε i) fun d => P d ε := by
  unfold wV
  cases sl ε i <;> rfl
theorem wPar_ap (i j : Nat) (va : DTA) (E : DEx) (K : DEnds) (ε : DEnv) : wPar i j va E K ε = va E ε fun ds ε1 => par2 ds fun d e => K.nx ((ε1.set i (some d)).set j (some e)) := by
  unfold wPar
  congr
theorem par2_ap (d e : D) (P : D → D → Prop) : par2 [d, e] P = P d e := rfl
theorem wGnil_ap (ε : DEnv) (P : DEnv → Prop) : wGnil [] ε P = P ε := rfl
theorem wGcons_ap (w : DTG) (ws : DTGs) (d : D) (r : List D) (ε : DEnv) (P : DEnv → Prop) : wGcons w ws (d :: r) ε P = w d ε fun ε1 => ws r ε1 P := rfl
theorem wGtup_ap (n : Nat) (ws : DTGs) (ds : List D) (ε : DEnv) (P : DEnv → Prop) : wGtup n ws (.tup ds) ε P = (ds.length = n ∧ ws ds ε P) := rfl
theorem sl_z (o : Option D) (ε : DEnv) : sl (o :: ε) 0 = o := rfl
theorem sl_s (o : Option D) (ε : DEnv) (n : Nat) : sl (o :: ε) (n + 1) = sl ε n := rfl
theorem set_z {α : Type} (o v : α) (ε : List α) : (o :: ε).set 0 v = v :: ε := rfl
theorem set_s {α : Type} (o v : α) (ε : List α) (n : Nat) : (o :: ε).set (n + 1) v = o :: ε.set n v := rfl
theorem wipe_z (ε : DEnv) : wipeE ε [] = ε := rfl
theorem wipe_s (ε : DEnv) (v : Nat) (vs : List Nat) : wipeE ε (v :: vs) = (wipeE ε vs).set v none := rfl
theorem rest_z (ε0 ε : DEnv) : restE ε0 ε [] = ε := rfl
theorem rest_s (ε0 ε : DEnv) (v : Nat) (vs : List Nat) : restE ε0 ε (v :: vs) = (restE ε0 ε vs).set v (sl ε0 v) := rfl
theorem oAdd_i (i j : Int) (P : D → Prop) : oAdd (.int i) (.int j) P = P (.int (i + j)) := rfl
theorem oAdd_t (x y : List D) (P : D → Prop) : oAdd (.tup x) (.tup y) P = (x.length + y.length ≤ sizeLine ∧ P (.tup (x ++ y))) := rfl
theorem oAdd_l (x y : List D) (P : D → Prop) : oAdd (.lst x) (.lst y) P = (x.length + y.length ≤ sizeLine ∧ P (.lst (x ++ y))) := rfl
theorem oAdd_s (x y : Str) (P : D → Prop) : oAdd (.str x) (.str y) P = (x.length + y.length ≤ sizeLine ∧ P (.str (x ++ y))) := rfl
theorem oSub_i (i j : Int) (P : D → Prop) : oSub (.int i) (.int j) P = P (.int (i - j)) := rfl
theorem oMul_i (i j : Int) (P : D → Prop) : oMul (.int i) (.int j) P = (MulOk i j ∧ P (.int (i * j))) := rfl
theorem oMul_t (x : List D) (k : Int) (P : D → Prop) : oMul (.tup x) (.int k) P = (x ≠ [] ∧ 2 ≤ k ∧ k ≤ 1000 ∧ x.length ≤ 1000 ∧ P (.tup (List.replicate k.toNat x).flatten)) := rfl
theorem oII_i (C : Int → Int → Prop) (g : Int → Int → D) (i j : Int) (P : D → Prop) : oII C g (.int i) (.int j) P = (C i j ∧ P (g i j)) := rfl
theorem oII0_i (g : Int → Int → D) (i j : Int) (P : D → Prop) : oII0 g (.int i) (.int j) P = P (g i j) := rfl
theorem oIx_l (x : List D) (i : Int) (P : D → Prop) : oIx (.lst x) (.int i) P = onS (atI x i) P := rfl
theorem oIx_t (x : List D) (i : Int) (P : D → Prop) : oIx (.tup x) (.int i) P = onS (atI x i) P := rfl
theorem oIx_f (x : List D) (i : Int) (P : D → Prop) : oIx (.frz x) (.int i) P = onS (atI x i) P := rfl
theorem oIsN_n (d : D) (P : D → Prop) : oIsN d .non P = P (.bl (isN d)) := by unfold oIsN; simp
theorem oNotN_n (d : D) (P : D → Prop) : oNotN d .non P = P (.bl (!isN d)) := by unfold oNotN; simp
theorem oLen_l (x : List D) (P : D → Prop) : oLen (.lst x) P = P (.int x.length) := rfl
theorem oLen_t (x : List D) (P : D → Prop) : oLen (.tup x) P = P (.int x.length) := rfl
theorem oLen_f (x : List D) (P : D → Prop) : oLen (.frz x) P = P (.int x.length) := rfl
theorem oInt_i (i : Int) (P : D → Prop) : oInt (.int i) P = P (.int i) := rfl
theorem oInt_b (b : Bool) (P : D → Prop) : oInt (.bl b) P = P (.int (if b then 1 else 0)) := rfl
theorem oI1_i (g : Int → D) (i : Int) (P : D → Prop) : oI1 g (.int i) P = P (g i) := rfl
theorem oNeg_i (i : Int) (P : D → Prop) : oNeg (.int i) P = P (.int (-i)) := rfl
theorem oList_l (x : List D) (P : D → Prop) : oList (.lst x) P = P (.lst x) := rfl
theorem oList_t (x : List D) (P : D → Prop) : oList (.tup x) P = P (.lst x) := rfl
theorem oTuple_l (x : List D) (P : D → Prop) : oTuple (.lst x) P = P (.tup x) := rfl
theorem oTuple_t (x : List D) (P : D → Prop) : oTuple (.tup x) P = P (.tup x) := rfl
theorem oBs_l (g : List Bool → D) (x : List D) (P : D → Prop) : oBs g (.lst x) P = onS (asBs x) fun bs => P (g bs) := rfl
theorem oSl_l (lo hi : Option Int) (x : List D) (P : D → Prop) : oSl lo hi (.lst x) P = P (.lst (cutD x lo hi)) := rfl
theorem oSl_t (lo hi : Option Int) (x : List D) (P : D → Prop) : oSl lo hi (.tup x) P = P (.tup (cutD x lo hi)) := rfl
theorem oIsi_ap (T : String) (d : D) (P : D → Prop) : oIsi T d P = onS (tyD d) fun t => P (.bl (isiT T t)) := rfl
theorem oIsi2_ap (T S : String) (d : D) (P : D → Prop) : oIsi2 T S d P = onS (tyD d) fun t => P (.bl (isiT T t || isiT S t)) := rfl
theorem tyD_n : tyD .non = some "NoneType" := rfl
theorem tyD_b (b : Bool) : tyD (.bl b) = some "bool" := rfl
theorem tyD_i (i : Int) : tyD (.int i) = some "int" := rfl
theorem tyD_s (x : Str) : tyD (.str x) = some "str" := rfl
theorem tyD_t (x : List D) : tyD (.tup x) = some "tuple" := rfl
theorem tyD_l (x : List D) : tyD (.lst x) = some "list" := rfl
theorem tyD_f (x : List D) : tyD (.frz x) = some "list" := rfl
theorem truD_n : truD .non = some false := rfl
theorem truD_b (b : Bool) : truD (.bl b) = some b := rfl
theorem truD_i (i : Int) : truD (.int i) = some (i != 0) := rfl
theorem truD_t (x : List D) : truD (.tup x) = some (!x.isEmpty) := rfl
theorem truD_l (x : List D) : truD (.lst x) = some (!x.isEmpty) := rfl
theorem asB_b (b : Bool) : asB (.bl b) = some b := rfl
theorem asI_i (i : Int) : asI (.int i) = some i := rfl
theorem asL_l (x : List D) : asL (.lst x) = some x := rfl
theorem isL_l (x : List D) : isL (some (.lst x)) = true := rfl
theorem isL_t (x : List D) : isL (some (.tup x)) = false := rfl
theorem isL_i (x : Int) : isL (some (.int x)) = false := rfl
theorem isL_b (x : Bool) : isL (some (.bl x)) = false := rfl
theorem isL_n : isL (some .non) = false := rfl
theorem itD_l (x : List D) : itD (.lst x) = some x := rfl
theorem itD_t (x : List D) : itD (.tup x) = some x := rfl
theorem itD_f (x : List D) : itD (.frz x) = some x := rfl
theorem fApp_ap (cs : List D) (y : D) (P : List D → Prop) : fApp cs y P = (cs.length < sizeLine ∧ P (cs ++ [y])) := rfl
theorem fExt_ap (cs : List D) (y : D) (P : List D → Prop) : fExt cs y P = onS (asL y) fun zs => cs.length + zs.length ≤ sizeLine ∧ P (cs ++ zs) := rfl
theorem ex_some {α : Type} (a : α) : (∃ d, some a = some d) = True := by simp
theorem onS_ap {α : Type} (a : α) (F : α → Prop) : onS (some a) F = F a := rfl
theorem ite_t (A B : Prop) : (if true = true then A else B) = A := if_pos rfl
theorem ite_f (A B : Prop) : (if false = true then A else B) = B := if_neg Bool.false_ne_true
theorem bodyD_ap (n : Nat) (v : DTS) (ds : List D) (EF : Addr → List Str → List D → D → Prop) (PF : D → D → Prop) : bodyD n v ds EF PF = v (fun C ns es ε => EF C ns es (ioD ε)) ⟨fun ε => PF .non (ioD ε), fun d ε => PF d (ioD ε), fun _ => False, fun _ => False⟩ (startD n ds) := rfl
theorem ioD_c (d : D) (ε : DEnv) : ioD (some d :: ε) = d := rfl
theorem start_ap (n : Nat) (ds : List D) : startD n ds = ds.map some ++ List.replicate (n - ds.length) none := rfl
theorem isi_int_NoneType : isiT "int" "NoneType" = false := by decide
theorem isi_int_bool : isiT "int" "bool" = true := by decide
theorem isi_int_int : isiT "int" "int" = true := by decide
theorem isi_int_str : isiT "int" "str" = false := by decide
theorem isi_int_tuple : isiT "int" "tuple" = false := by decide
theorem isi_int_list : isiT "int" "list" = false := by decide
theorem isi_int_dict : isiT "int" "dict" = false := by decide
theorem isi_bool_NoneType : isiT "bool" "NoneType" = false := by decide
theorem isi_bool_bool : isiT "bool" "bool" = true := by decide
theorem isi_bool_int : isiT "bool" "int" = false := by decide
theorem isi_bool_str : isiT "bool" "str" = false := by decide
theorem isi_bool_tuple : isiT "bool" "tuple" = false := by decide
theorem isi_bool_list : isiT "bool" "list" = false := by decide
theorem isi_bool_dict : isiT "bool" "dict" = false := by decide
theorem isi_str_NoneType : isiT "str" "NoneType" = false := by decide
theorem isi_str_bool : isiT "str" "bool" = false := by decide
theorem isi_str_int : isiT "str" "int" = false := by decide
theorem isi_str_str : isiT "str" "str" = true := by decide
theorem isi_str_tuple : isiT "str" "tuple" = false := by decide
theorem isi_str_list : isiT "str" "list" = false := by decide
theorem isi_str_dict : isiT "str" "dict" = false := by decide
theorem isi_list_NoneType : isiT "list" "NoneType" = false := by decide
theorem isi_list_bool : isiT "list" "bool" = false := by decide
theorem isi_list_int : isiT "list" "int" = false := by decide
theorem isi_list_str : isiT "list" "str" = false := by decide
theorem isi_list_tuple : isiT "list" "tuple" = false := by decide
theorem isi_list_list : isiT "list" "list" = true := by decide
theorem isi_list_dict : isiT "list" "dict" = false := by decide
theorem isi_tuple_NoneType : isiT "tuple" "NoneType" = false := by decide
theorem isi_tuple_bool : isiT "tuple" "bool" = false := by decide
theorem isi_tuple_int : isiT "tuple" "int" = false := by decide
theorem isi_tuple_str : isiT "tuple" "str" = false := by decide
theorem isi_tuple_tuple : isiT "tuple" "tuple" = true := by decide
theorem isi_tuple_list : isiT "tuple" "list" = false := by decide
theorem isi_tuple_dict : isiT "tuple" "dict" = false := by decide
theorem isi_dict_NoneType : isiT "dict" "NoneType" = false := by decide
theorem isi_dict_bool : isiT "dict" "bool" = false := by decide
theorem isi_dict_int : isiT "dict" "int" = false := by decide
theorem isi_dict_str : isiT "dict" "str" = false := by decide
theorem isi_dict_tuple : isiT "dict" "tuple" = false := by decide
theorem isi_dict_list : isiT "dict" "list" = false := by decide
theorem isi_dict_dict : isiT "dict" "dict" = true := by decide
/-! ### loops -/
/-- a block's turns by an invariant of what was gathered and the slots -/
theorem lc_inv {vs : List Nat} {wg : DTG} {wt : DTT} {we : DTE} (I : List D → List D → DEnv → Prop) {P : List D → DEnv → Prop} {ds : List D}
    (step : ∀ pre d r acc ε, ds = pre ++ d :: r → I pre acc ε → ∀ (K1 : D → DEnv → Prop) (K0 : DEnv → Prop), (∀ y ε4, I (pre ++ [d]) (acc ++ [y]) (wipeE ε4 vs) → K1 y ε4) → (∀ ε3, I (pre ++ [d]) acc (wipeE ε3 vs) → K0 ε3) → wg d ε fun ε2 => wt E00 ε2 fun b ε3 => if b = true then we E00 ε3 K1 else K0 ε3)
    (fin : ∀ acc ε, I ds acc ε → P acc ε) : ∀ {ε acc}, I [] acc ε → lcLoop vs wg wt we ds ε acc P := by
  have key : ∀ (r pre : List D) (ε : DEnv) (acc : List D), ds = pre ++ r → I pre acc ε → lcLoop vs wg wt we r ε acc P := by
    intro r
    induction r with
    | nil =>
      intro pre ε acc e h
      rw [List.append_nil] at e
      subst e
      exact fin acc ε h
    | cons d r ih =>
      intro pre ε acc e h
      unfold lcLoop
      exact step pre d r acc ε e h _ _ (fun y ε4 h4 => ih (pre ++ [d]) _ _ (by rw [e]; simp) h4) (fun ε3 h3 => ih (pre ++ [d]) _ _ (by rw [e]; simp) h3)
  exact fun {ε acc} h => key ds [] ε acc rfl h
/-- a block that leaves the slots as they were -/
theorem lc_fm {vs : List Nat} {wg : DTG} {wt : DTT} {we : DTE} (F : D → Option D) {ds : List D} {ε0 : DEnv} {P : List D → DEnv → Prop}
    (h : ∀ d ∈ ds, ∀ (K1 : D → DEnv → Prop) (K0 : DEnv → Prop), (∀ y ε4, F d = some y → wipeE ε4 vs = ε0 → K1 y ε4) → (∀ ε3, F d = none → wipeE ε3 vs = ε0 → K0 ε3) → wg d ε0 fun ε2 => wt E00 ε2 fun b ε3 => if b = true then we E00 ε3 K1 else K0 ε3) (p : P (ds.filterMap F) ε0) : lcLoop vs wg wt we ds ε0 [] P := by
  refine lc_inv (fun pre acc ε => acc = pre.filterMap F ∧ ε = ε0) (fun pre d r acc ε e hI K1 K0 h1 h0 => ?_) (fun acc ε hI => by rw [hI.1, hI.2]; exact p) ⟨rfl, rfl⟩
  obtain ⟨e1, e2⟩ := hI
  subst e1 e2
  refine h d (by rw [e]; simp) K1 K0 (fun y ε4 hy hw => h1 y ε4 ⟨?_, hw⟩) (fun ε3 hy hw => h0 ε3 ⟨?_, hw⟩)
  · rw [List.filterMap_append, List.filterMap_cons, hy, List.filterMap_nil]
  · rw [List.filterMap_append, List.filterMap_cons, hy, List.filterMap_nil, List.append_nil]
/-- .. without a test -/
theorem lc_map {vs : List Nat} {wg : DTG} {we : DTE} (F : D → D) {ds : List D} {ε0 : DEnv} {P : List D → DEnv → Prop}
    (h : ∀ d ∈ ds, ∀ (K1 : D → DEnv → Prop), (∀ ε4, wipeE ε4 vs = ε0 → K1 (F d) ε4) → wg d ε0 fun ε2 => we E00 ε2 K1) (p : P (ds.map F) ε0) : lcLoop vs wg wYes we ds ε0 [] P := by
  refine lc_fm (fun d => some (F d)) (fun d hd K1 K0 h1 h0 => ?_) (by rw [List.filterMap_eq_map']; exact p)
  have := h d hd K1 fun ε4 hw => h1 _ _ rfl hw
  simpa only [wYes_ap, if_true] using this
theorem for_inv {wg : DTG} {wb : DTS} {E : DEx} {K : DEnds} (I : List D → DEnv → Prop) {ds : List D}
    (step : ∀ pre d r ε, ds = pre ++ d :: r → I pre ε → ∀ N : DEnv → Prop, (∀ ε', I (pre ++ [d]) ε' → N ε') → wg d ε fun ε2 => wb E { K with nx := N, ct := N, bk := K.nx } ε2)
    (fin : ∀ ε, I ds ε → K.nx ε) : ∀ {ε}, I [] ε → forLoop wg wb E K ds ε := by
  have key : ∀ (r pre : List D) (ε : DEnv), ds = pre ++ r → I pre ε → forLoop wg wb E K r ε := by
    intro r
    induction r with
    | nil =>
      intro pre ε e h
      rw [List.append_nil] at e
      subst e
      exact fin ε h
    | cons d r ih =>
      intro pre ε e h
      unfold forLoop
      exact step pre d r ε e h _ fun ε' h' => ih (pre ++ [d]) ε' (by rw [e]; simp) h'
  exact fun {ε} h => key ds [] ε rfl h
theorem wh_inv {vt : DTT} {wb : DTS} {E : DEx} {K : DEnds} (I : DEnv → Prop) (μ : DEnv → Nat) (step : ∀ ε, I ε → ∀ N : DEnv → Prop, (∀ ε', I ε' → μ ε' < μ ε → N ε') → vt E ε fun b ε1 => if b = true then wb E { K with nx := N, ct := N, bk := K.nx } ε1 else K.nx ε1) :
    ∀ {ε}, I ε → ∃ n, whLoop vt wb E K n ε := by
  have key : ∀ (n : Nat) (ε : DEnv), I ε → μ ε < n → whLoop vt wb E K n ε := by
    intro n
    induction n with
    | zero => intro ε _ h; exact absurd h (Nat.not_lt_zero _)
    | succ n ih =>
      intro ε h hn
      unfold whLoop
      exact step ε h _ fun ε' h' hl => ih ε' h' (by omega)
  exact fun {ε} h => ⟨μ ε + 1, key _ ε h (Nat.lt_succ_self _)⟩
/-! ### promises -/
/-- by what x is: the arguments, what is asked of them, what comes back -/
def fnX {α : Type} (args : α → List D) (pre : α → Prop) (post : α → D → Prop) : DFn := fun ds _ P => ∃ x, ds = args x ∧ pre x ∧ ∀ r c', post x r → P r c'
theorem fnX_mono {α : Type} {args : α → List D} {pre : α → Prop} {post : α → D → Prop} : FMono (fnX args pre post) := fun _ _ _ _ h ⟨x, e, p, q⟩ => ⟨x, e, p, fun r c' z => h _ _ (q r c' z)⟩
/-- .. and what the first argument is then -/
def fnY {α : Type} (args : α → List D) (pre : α → Prop) (post : α → D → D → Prop) : DFn := fun ds _ P => ∃ x, ds = args x ∧ pre x ∧ ∀ r c', post x r c' → P r c'
theorem fnY_mono {α : Type} {args : α → List D} {pre : α → Prop} {post : α → D → D → Prop} : FMono (fnY args pre post) := fun _ _ _ _ h ⟨x, e, p, q⟩ => ⟨x, e, p, fun r c' z => h _ _ (q r c' z)⟩
/-! ### lists, places -/
theorem atI_n {xs : List D} {j : Nat} {d : D} (h : xs[j]? = some d) : atI xs (j : Int) = some d := atI_nat h
theorem atI_z (d : D) (r : List D) : atI (d :: r) 0 = some d := atI_nat (j := 0) rfl
theorem atI_1 (d e : D) (r : List D) : atI (d :: e :: r) 1 = some e := atI_nat (j := 1) rfl
theorem atI_2 (d e f : D) (r : List D) : atI (d :: e :: f :: r) 2 = some f := atI_nat (j := 2) rfl
theorem atI_m1 (xs : List D) (v : D) : atI (xs ++ [v]) (-1) = some v := atI_last xs v
theorem ixN_k {n j : Nat} (h : j < n) : ixN n (j : Int) = some j := by
  unfold ixN
  rw [if_pos (by omega), if_pos (by omega), Int.toNat_natCast]
/-- xs[:-1] -/
theorem cut_m1 (xs : List D) (v : D) : cutD (xs ++ [v]) none (some (-1)) = xs := by
  unfold cutD
  rw [HT.sIx_none]
  have e : HT.sIx (xs ++ [v]).length (xs ++ [v]).length (some (-1)) = xs.length := by
    show (if (-1 : Int) < 0 then ((-1 : Int) + ((xs ++ [v]).length : Int)).toNat else min (-1 : Int).toNat (xs ++ [v]).length) = xs.length
    rw [if_pos (by decide), List.length_append]
    simp only [List.length_cons, List.length_nil]
    omega
  rw [e, List.drop_zero, Nat.sub_zero, List.take_left']
  rfl
/-- xs[-2:] -/
theorem cut_m2 (xs : List D) (u v : D) : cutD (xs ++ [u, v]) (some (-2)) none = [u, v] := by
  unfold cutD
  have e : HT.sIx (xs ++ [u, v]).length 0 (some (-2)) = xs.length := by
    show (if (-2 : Int) < 0 then ((-2 : Int) + ((xs ++ [u, v]).length : Int)).toNat else min (-2 : Int).toNat (xs ++ [u, v]).length) = xs.length
    rw [if_pos (by decide), List.length_append]
    simp only [List.length_cons, List.length_nil]
    omega
  rw [e, HT.sIx_none, List.drop_left']
  · rw [List.length_append]
    simp only [List.length_cons, List.length_nil]
    rw [List.take_of_length_le (by simp only [List.length_cons, List.length_nil]; omega)]
  · rfl
end DL
set_option Elab.async false
set_option linter.all false
set_option maxRecDepth 100000
set_option maxHeartbeats 4000000
namespace K51
open PySem PySem.Spec L2 DL
open PyProof.Rows hiding St
def topS (i : Nat) : Stmt := PySem.Challenge.pw_pointrounds_k51_cast_sums.main.body.getD i (.Pass ⟨0, 0, 0, 0⟩)
abbrev s_is_whole : Stmt := topS 6
abbrev N_is_whole : List Str := ["thing"]
theorem sc_is_whole : FnScope N_is_whole ["thing"] (defScope s_is_whole) := ⟨rfl, rfl, rfl, by decide +kernel, rfl, by decide +kernel, by decide +kernel⟩
abbrev s_is_within : Stmt := topS 7
abbrev N_is_within : List Str := ["thing", "low", "high"]
theorem sc_is_within : FnScope N_is_within ["thing", "low", "high"] (defScope s_is_within) := ⟨rfl, rfl, rfl, by decide +kernel, rfl, by decide +kernel, by decide +kernel⟩
abbrev s_need_whole : Stmt := topS 9
abbrev N_need_whole : List Str := ["thing"]
theorem sc_need_whole : FnScope N_need_whole ["thing"] (defScope s_need_whole) := ⟨rfl, rfl, rfl, by decide +kernel, rfl, by decide +kernel, by decide +kernel⟩
abbrev s_need_by : Stmt := topS 10
abbrev N_need_by : List Str := ["thing"]
theorem sc_need_by : FnScope N_need_by ["thing"] (defScope s_need_by) := ⟨rfl, rfl, rfl, by decide +kernel, rfl, by decide +kernel, by decide +kernel⟩
abbrev s_least_part : Stmt := topS 11
abbrev N_least_part : List Str := ["top", "by", "whole", "left"]
theorem sc_least_part : FnScope N_least_part ["top", "by"] (defScope s_least_part) := ⟨rfl, rfl, rfl, by decide +kernel, rfl, by decide +kernel, by decide +kernel⟩
abbrev s_common_of_two : Stmt := topS 12
abbrev N_common_of_two : List Str := ["one", "other"]
theorem sc_common_of_two : FnScope N_common_of_two ["one", "other"] (defScope s_common_of_two) := ⟨rfl, rfl, rfl, by decide +kernel, rfl, by decide +kernel, by decide +kernel⟩
abbrev s_common_part : Stmt := topS 13
abbrev N_common_part : List Str := ["numbers", "number", "found"]
theorem sc_common_part : FnScope N_common_part ["numbers"] (defScope s_common_part) := ⟨rfl, rfl, rfl, by decide +kernel, rfl, by decide +kernel, by decide +kernel⟩
abbrev s_are_wholes : Stmt := topS 16
abbrev N_are_wholes : List Str := ["thing", "number"]
theorem sc_are_wholes : FnScope N_are_wholes ["thing"] (defScope s_are_wholes) := ⟨rfl, rfl, rfl, by decide +kernel, rfl, by decide +kernel, by decide +kernel⟩
abbrev s_need_sum : Stmt := topS 17
abbrev N_need_sum : List Str := ["thing"]
theorem sc_need_sum : FnScope N_need_sum ["thing"] (defScope s_need_sum) := ⟨rfl, rfl, rfl, by decide +kernel, rfl, by decide +kernel, by decide +kernel⟩
abbrev s_plus_sums : Stmt := topS 18
abbrev N_plus_sums : List Str := ["one", "other", "here", "there"]
theorem sc_plus_sums : FnScope N_plus_sums ["one", "other"] (defScope s_plus_sums) := ⟨rfl, rfl, rfl, by decide +kernel, rfl, by decide +kernel, by decide +kernel⟩
abbrev s_times_sum : Stmt := topS 19
abbrev N_times_sum : List Str := ["by", "one", "number"]
theorem sc_times_sum : FnScope N_times_sum ["by", "one"] (defScope s_times_sum) := ⟨rfl, rfl, rfl, by decide +kernel, rfl, by decide +kernel, by decide +kernel⟩
abbrev s_plain_sum : Stmt := topS 20
abbrev N_plain_sum : List Str := ["one", "by", "factor"]
theorem sc_plain_sum : FnScope N_plain_sum ["one"] (defScope s_plain_sum) := ⟨rfl, rfl, rfl, by decide +kernel, rfl, by decide +kernel, by decide +kernel⟩
abbrev s_need_sums : Stmt := topS 22
abbrev N_need_sums : List Str := ["things", "thing"]
theorem sc_need_sums : FnScope N_need_sums ["things"] (defScope s_need_sums) := ⟨rfl, rfl, rfl, by decide +kernel, rfl, by decide +kernel, by decide +kernel⟩
abbrev s_need_alike : Stmt := topS 23
abbrev N_need_alike : List Str := ["sums", "long", "one"]
theorem sc_need_alike : FnScope N_need_alike ["sums", "long"] (defScope s_need_alike) := ⟨rfl, rfl, rfl, by decide +kernel, rfl, by decide +kernel, by decide +kernel⟩
abbrev s_need_cast : Stmt := topS 27
abbrev N_need_cast : List Str := ["sums", "at"]
theorem sc_need_cast : FnScope N_need_cast ["sums", "at"] (defScope s_need_cast) := ⟨rfl, rfl, rfl, by decide +kernel, rfl, by decide +kernel, by decide +kernel⟩
abbrev s_pairs_of : Stmt := topS 28
abbrev N_pairs_of : List Str := ["sums", "at", "lows", "highs", "found", "low", "place", "one", "high"]
theorem sc_pairs_of : FnScope N_pairs_of ["sums", "at"] (defScope s_pairs_of) := ⟨rfl, rfl, rfl, by decide +kernel, rfl, by decide +kernel, by decide +kernel⟩
abbrev s_pair_sum : Stmt := topS 29
abbrev N_pair_sum : List Str := ["low", "high", "at"]
theorem sc_pair_sum : FnScope N_pair_sum ["low", "high", "at"] (defScope s_pair_sum) := ⟨rfl, rfl, rfl, by decide +kernel, rfl, by decide +kernel, by decide +kernel⟩
abbrev s_always_holds : Stmt := topS 30
abbrev N_always_holds : List Str := ["one"]
theorem sc_always_holds : FnScope N_always_holds ["one"] (defScope s_always_holds) := ⟨rfl, rfl, rfl, by decide +kernel, rfl, by decide +kernel, by decide +kernel⟩
abbrev s_cast_away : Stmt := topS 31
abbrev N_cast_away : List Str := ["sums", "at", "rows", "low", "high", "place", "one", "row"]
theorem sc_cast_away : FnScope N_cast_away ["sums", "at"] (defScope s_cast_away) := ⟨rfl, rfl, rfl, by decide +kernel, rfl, by decide +kernel, by decide +kernel⟩
abbrev s_law_cell_at : Stmt := topS 33
abbrev N_law_cell_at : List Str := ["_law_script", "_law_k"]
theorem sc_law_cell_at : FnScope N_law_cell_at ["_law_script", "_law_k"] (defScope s_law_cell_at) := ⟨rfl, rfl, rfl, by decide +kernel, rfl, by decide +kernel, by decide +kernel⟩
abbrev s_law_box : Stmt := topS 34
abbrev N_law_box : List Str := ["_law_cell"]
theorem sc_law_box : FnScope N_law_box ["_law_cell"] (defScope s_law_box) := ⟨rfl, rfl, rfl, by decide +kernel, rfl, by decide +kernel, by decide +kernel⟩
abbrev s_law_take : Stmt := topS 35
abbrev N_law_take : List Str := ["_law_box_here", "_law_many", "_law_number", "_law_digit"]
theorem sc_law_take : FnScope N_law_take ["_law_box_here", "_law_many"] (defScope s_law_take) := ⟨rfl, rfl, rfl, by decide +kernel, rfl, by decide +kernel, by decide +kernel⟩
abbrev s_law_worth : Stmt := topS 36
abbrev N_law_worth : List Str := ["_law_one", "_law_point", "_law_total", "_law_place", "_law_worth_here"]
theorem sc_law_worth : FnScope N_law_worth ["_law_one", "_law_point"] (defScope s_law_worth) := ⟨rfl, rfl, rfl, by decide +kernel, rfl, by decide +kernel, by decide +kernel⟩
abbrev s_law_plain : Stmt := topS 37
abbrev N_law_plain : List Str := ["_law_one", "_law_by", "_law_factor", "_law_left", "_law_other"]
theorem sc_law_plain : FnScope N_law_plain ["_law_one"] (defScope s_law_plain) := ⟨rfl, rfl, rfl, by decide +kernel, rfl, by decide +kernel, by decide +kernel⟩
abbrev s_law_sums : Stmt := topS 38
abbrev N_law_sums : List Str := ["_law_box_here", "_law_size", "_law_many", "_law_found", "_law_wide", "_law_k", "_law_factors", "_law_place", "_law_factor"]
theorem sc_law_sums : FnScope N_law_sums ["_law_box_here", "_law_size", "_law_many"] (defScope s_law_sums) := ⟨rfl, rfl, rfl, by decide +kernel, rfl, by decide +kernel, by decide +kernel⟩
abbrev s_law_cast : Stmt := topS 39
abbrev N_law_cast : List Str := ["_law_sums_here", "_law_at", "_law_rows", "_law_place", "_law_one", "_law_pairs", "_law_low", "_law_high", "_law_other", "_law_pair", "_law_row", "_law_here", "_law_there", "_law_number"]
theorem sc_law_cast : FnScope N_law_cast ["_law_sums_here", "_law_at"] (defScope s_law_cast) := ⟨rfl, rfl, rfl, by decide +kernel, rfl, by decide +kernel, by decide +kernel⟩
abbrev s_law_kept : Stmt := topS 40
abbrev N_law_kept : List Str := ["_law_sums_here", "_law_point", "_law_one"]
theorem sc_law_kept : FnScope N_law_kept ["_law_sums_here", "_law_point"] (defScope s_law_kept) := ⟨rfl, rfl, rfl, by decide +kernel, rfl, by decide +kernel, by decide +kernel⟩
abbrev s_law_right : Stmt := topS 41
abbrev N_law_right : List Str := ["_law_box_here", "_law_sums_here", "_law_at", "_law_rows", "_law_pairs", "_law_handed", "_law_found", "_law_turn", "_law_point", "_law_row", "_law_factor"]
theorem sc_law_right : FnScope N_law_right ["_law_box_here", "_law_sums_here", "_law_at"] (defScope s_law_right) := ⟨rfl, rfl, rfl, by decide +kernel, rfl, by decide +kernel, by decide +kernel⟩
abbrev s_law : Stmt := topS 42
abbrev N_law : List Str := ["_law_script", "_law_k", "_law_box_here", "_law_size", "_law_many", "_law_sums_here", "_law_turn", "_law_one"]
theorem sc_law : FnScope N_law ["_law_script"] (defScope s_law) := ⟨rfl, rfl, rfl, by decide +kernel, rfl, by decide +kernel, by decide +kernel⟩
/-- what the top has written -/
structure Ev (K : PySem.W.Frag) (mg : Str → Option Value) where
  a_is_whole : Addr
  fd_is_whole : FuncData
  g_is_whole : mg "is_whole" = some (.ref a_is_whole)
  F_is_whole : Fun K "is_whole" "is_whole" s_is_whole a_is_whole fd_is_whole
  b_is_whole : Binds K fd_is_whole ["thing"] []
  a_is_within : Addr
  fd_is_within : FuncData
  g_is_within : mg "is_within" = some (.ref a_is_within)
  F_is_within : Fun K "is_within" "is_within" s_is_within a_is_within fd_is_within
  b_is_within : Binds K fd_is_within ["thing", "low", "high"] []
  a_need_whole : Addr
  fd_need_whole : FuncData
  g_need_whole : mg "need_whole" = some (.ref a_need_whole)
  F_need_whole : Fun K "need_whole" "need_whole" s_need_whole a_need_whole fd_need_whole
  b_need_whole : Binds K fd_need_whole ["thing"] []
  a_need_by : Addr
  fd_need_by : FuncData
  g_need_by : mg "need_by" = some (.ref a_need_by)
  F_need_by : Fun K "need_by" "need_by" s_need_by a_need_by fd_need_by
  b_need_by : Binds K fd_need_by ["thing"] []
  a_least_part : Addr
  fd_least_part : FuncData
  g_least_part : mg "least_part" = some (.ref a_least_part)
  F_least_part : Fun K "least_part" "least_part" s_least_part a_least_part fd_least_part
  b_least_part : Binds K fd_least_part ["top", "by"] []
  a_common_of_two : Addr
  fd_common_of_two : FuncData
  g_common_of_two : mg "common_of_two" = some (.ref a_common_of_two)
  F_common_of_two : Fun K "common_of_two" "common_of_two" s_common_of_two a_common_of_two fd_common_of_two
  b_common_of_two : Binds K fd_common_of_two ["one", "other"] []
  a_common_part : Addr
  fd_common_part : FuncData
  g_common_part : mg "common_part" = some (.ref a_common_part)
  F_common_part : Fun K "common_part" "common_part" s_common_part a_common_part fd_common_part
  b_common_part : Binds K fd_common_part ["numbers"] []
  a_are_wholes : Addr
  fd_are_wholes : FuncData
  g_are_wholes : mg "are_wholes" = some (.ref a_are_wholes)
  F_are_wholes : Fun K "are_wholes" "are_wholes" s_are_wholes a_are_wholes fd_are_wholes
  b_are_wholes : Binds K fd_are_wholes ["thing"] []
  a_need_sum : Addr
  fd_need_sum : FuncData
  g_need_sum : mg "need_sum" = some (.ref a_need_sum)
  F_need_sum : Fun K "need_sum" "need_sum" s_need_sum a_need_sum fd_need_sum
  b_need_sum : Binds K fd_need_sum ["thing"] []
  a_plus_sums : Addr
  fd_plus_sums : FuncData
  g_plus_sums : mg "plus_sums" = some (.ref a_plus_sums)
  F_plus_sums : Fun K "plus_sums" "plus_sums" s_plus_sums a_plus_sums fd_plus_sums
  b_plus_sums : Binds K fd_plus_sums ["one", "other"] []
  a_times_sum : Addr
  fd_times_sum : FuncData
  g_times_sum : mg "times_sum" = some (.ref a_times_sum)
  F_times_sum : Fun K "times_sum" "times_sum" s_times_sum a_times_sum fd_times_sum
  b_times_sum : Binds K fd_times_sum ["by", "one"] []
  a_plain_sum : Addr
  fd_plain_sum : FuncData
  g_plain_sum : mg "plain_sum" = some (.ref a_plain_sum)
  F_plain_sum : Fun K "plain_sum" "plain_sum" s_plain_sum a_plain_sum fd_plain_sum
  b_plain_sum : Binds K fd_plain_sum ["one"] []
  a_need_sums : Addr
  fd_need_sums : FuncData
  g_need_sums : mg "need_sums" = some (.ref a_need_sums)
  F_need_sums : Fun K "need_sums" "need_sums" s_need_sums a_need_sums fd_need_sums
  b_need_sums : Binds K fd_need_sums ["things"] []
  a_need_alike : Addr
  fd_need_alike : FuncData
  g_need_alike : mg "need_alike" = some (.ref a_need_alike)
  F_need_alike : Fun K "need_alike" "need_alike" s_need_alike a_need_alike fd_need_alike
  b_need_alike : Binds K fd_need_alike ["sums", "long"] []
  a_need_cast : Addr
  fd_need_cast : FuncData
  g_need_cast : mg "need_cast" = some (.ref a_need_cast)
  F_need_cast : Fun K "need_cast" "need_cast" s_need_cast a_need_cast fd_need_cast
  b_need_cast : Binds K fd_need_cast ["sums", "at"] []
  a_pairs_of : Addr
  fd_pairs_of : FuncData
  g_pairs_of : mg "pairs_of" = some (.ref a_pairs_of)
  F_pairs_of : Fun K "pairs_of" "pairs_of" s_pairs_of a_pairs_of fd_pairs_of
  b_pairs_of : Binds K fd_pairs_of ["sums", "at"] []
  a_pair_sum : Addr
  fd_pair_sum : FuncData
  g_pair_sum : mg "pair_sum" = some (.ref a_pair_sum)
  F_pair_sum : Fun K "pair_sum" "pair_sum" s_pair_sum a_pair_sum fd_pair_sum
  b_pair_sum : Binds K fd_pair_sum ["low", "high", "at"] []
  a_always_holds : Addr
  fd_always_holds : FuncData
  g_always_holds : mg "always_holds" = some (.ref a_always_holds)
  F_always_holds : Fun K "always_holds" "always_holds" s_always_holds a_always_holds fd_always_holds
  b_always_holds : Binds K fd_always_holds ["one"] []
  a_cast_away : Addr
  fd_cast_away : FuncData
  g_cast_away : mg "cast_away" = some (.ref a_cast_away)
  F_cast_away : Fun K "cast_away" "cast_away" s_cast_away a_cast_away fd_cast_away
  b_cast_away : Binds K fd_cast_away ["sums", "at"] []
  a_law_cell_at : Addr
  fd_law_cell_at : FuncData
  g_law_cell_at : mg "_law_cell_at" = some (.ref a_law_cell_at)
  F_law_cell_at : Fun K "_law_cell_at" "_law_cell_at" s_law_cell_at a_law_cell_at fd_law_cell_at
  b_law_cell_at : Binds K fd_law_cell_at ["_law_script", "_law_k"] []
  a_law_box : Addr
  fd_law_box : FuncData
  g_law_box : mg "_law_box" = some (.ref a_law_box)
  F_law_box : Fun K "_law_box" "_law_box" s_law_box a_law_box fd_law_box
  b_law_box : Binds K fd_law_box ["_law_cell"] []
  a_law_take : Addr
  fd_law_take : FuncData
  g_law_take : mg "_law_take" = some (.ref a_law_take)
  F_law_take : Fun K "_law_take" "_law_take" s_law_take a_law_take fd_law_take
  b_law_take : Binds K fd_law_take ["_law_box_here", "_law_many"] []
  a_law_worth : Addr
  fd_law_worth : FuncData
  g_law_worth : mg "_law_worth" = some (.ref a_law_worth)
  F_law_worth : Fun K "_law_worth" "_law_worth" s_law_worth a_law_worth fd_law_worth
  b_law_worth : Binds K fd_law_worth ["_law_one", "_law_point"] []
  a_law_plain : Addr
  fd_law_plain : FuncData
  g_law_plain : mg "_law_plain" = some (.ref a_law_plain)
  F_law_plain : Fun K "_law_plain" "_law_plain" s_law_plain a_law_plain fd_law_plain
  b_law_plain : Binds K fd_law_plain ["_law_one"] []
  a_law_sums : Addr
  fd_law_sums : FuncData
  g_law_sums : mg "_law_sums" = some (.ref a_law_sums)
  F_law_sums : Fun K "_law_sums" "_law_sums" s_law_sums a_law_sums fd_law_sums
  b_law_sums : Binds K fd_law_sums ["_law_box_here", "_law_size", "_law_many"] []
  a_law_cast : Addr
  fd_law_cast : FuncData
  g_law_cast : mg "_law_cast" = some (.ref a_law_cast)
  F_law_cast : Fun K "_law_cast" "_law_cast" s_law_cast a_law_cast fd_law_cast
  b_law_cast : Binds K fd_law_cast ["_law_sums_here", "_law_at"] []
  a_law_kept : Addr
  fd_law_kept : FuncData
  g_law_kept : mg "_law_kept" = some (.ref a_law_kept)
  F_law_kept : Fun K "_law_kept" "_law_kept" s_law_kept a_law_kept fd_law_kept
  b_law_kept : Binds K fd_law_kept ["_law_sums_here", "_law_point"] []
  a_law_right : Addr
  fd_law_right : FuncData
  g_law_right : mg "_law_right" = some (.ref a_law_right)
  F_law_right : Fun K "_law_right" "_law_right" s_law_right a_law_right fd_law_right
  b_law_right : Binds K fd_law_right ["_law_box_here", "_law_sums_here", "_law_at"] []
  a_law : Addr
  fd_law : FuncData
  g_law : mg "law" = some (.ref a_law)
  F_law : Fun K "law" "law" s_law a_law fd_law
  b_law : Binds K fd_law ["_law_script"] []
  z_abs : mg "abs" = none
  z_all : mg "all" = none
  z_bool : mg "bool" = none
  z_divmod : mg "divmod" = none
  z_enumerate : mg "enumerate" = none
  z_int : mg "int" = none
  z_isinstance : mg "isinstance" = none
  z_len : mg "len" = none
  z_list : mg "list" = none
  z_max : mg "max" = none
  z_min : mg "min" = none
  z_range : mg "range" = none
  z_tuple : mg "tuple" = none
  z_zip : mg "zip" = none
  t_LONGEST : Tok
  c_LONGEST : mg "LONGEST" = some (.int 11 t_LONGEST)
  t_OLD : Tok
  c_OLD : mg "OLD" = some (.str "old" t_OLD)
  t_PAIR : Tok
  c_PAIR : mg "PAIR" = some (.str "pair" t_PAIR)
end K51
set_option Elab.async false
set_option linter.all false
set_option maxRecDepth 100000
set_option maxHeartbeats 4000000
namespace K51
open PySem PySem.Spec L2 DL
open PyProof.Rows hiding St
def tI (ns : List Int) : D := .tup (ns.map D.int)
def sq (b : Bool) (ds : List D) : D := if b = true then .lst ds else .tup ds
def isW : D → Bool
  | .int _ => true
  | _ => false
theorem itD_sq (b : Bool) (ds : List D) : itD (sq b ds) = some ds := by cases b <;> rfl
theorem tyD_sq (b : Bool) (ds : List D) : tyD (sq b ds) = some (if b = true then "list" else "tuple") := by cases b <;> rfl
theorem oLen_sq (b : Bool) (x : List D) (P : D → Prop) : oLen (sq b x) P = P (.int x.length) := by cases b <;> rfl
theorem oIx_sq (b : Bool) (x : List D) (i : Int) (P : D → Prop) : oIx (sq b x) (.int i) P = onS (atI x i) P := by cases b <;> rfl
theorem itD_tI (ns : List Int) : itD (tI ns) = some (ns.map D.int) := rfl
theorem oLen_tI (ns : List Int) (P : D → Prop) : oLen (tI ns) P = P (.int ns.length) := by unfold tI; rw [oLen_t, List.length_map]
theorem oIx_tI (ns : List Int) (i : Int) (P : D → Prop) : oIx (tI ns) (.int i) P = onS (atI (ns.map D.int) i) P := rfl
theorem tyD_tI (ns : List Int) : tyD (tI ns) = some "tuple" := rfl
theorem atI_int {ns : List Int} {j : Nat} {n : Int} (h : ns[j]? = some n) : atI (ns.map D.int) (j : Int) = some (.int n) := atI_n (by rw [List.getElem?_map, h]; rfl)
theorem atI_intm1 (ns : List Int) (n : Int) : atI ((ns ++ [n]).map D.int) (-1) = some (.int n) := by rw [List.map_append]; exact atI_m1 _ _
theorem small_z {n : Nat} (h : n ≤ 16777216) : n ≤ sizeLine := by rw [sizeLine_eq]; exact h
theorem mulOk_l {i j : Int} (h1 : -(2 ^ 64) < i) (h2 : i < 2 ^ 64) : MulOk i j := .inl (.inl ⟨h1, h2⟩)
theorem divOk_s {i j : Int} (h1 : 0 < j) (h2 : j < 1073741824) : DivOk i j := .inl ⟨by omega, by omega⟩
/-! is_whole, is_within, need_whole, need_by -/
def f_is_whole : DFn := fnX (α := D) (fun d => [d]) (fun d => (tyD d).isSome = true) (fun d r => r = .bl (isW d))
theorem m_is_whole : FMono f_is_whole := fnX_mono
def f_is_within : DFn := fnX (α := Int × Int × Int) (fun x => [.int x.1, .int x.2.1, .int x.2.2]) (fun _ => True) (fun x r => r = .bl (decide (x.2.1 ≤ x.1) && decide (x.1 ≤ x.2.2)))
theorem m_is_within : FMono f_is_within := fnX_mono
def f_need_whole : DFn := fnX (α := Int) (fun i => [.int i]) (fun _ => True) (fun _ r => r = .non)
theorem m_need_whole : FMono f_need_whole := fnX_mono
def f_need_by : DFn := fnX (α := Int) (fun i => [.int i]) (fun i => 1 ≤ i) (fun _ r => r = .non)
theorem m_need_by : FMono f_need_by := fnX_mono
def cdiv (top by_ : Int) : Int := top / by_ + (if 0 < top % by_ then 1 else 0)
def f_least_part : DFn := fnX (α := Int × Int) (fun x => [.int x.1, .int x.2]) (fun x => 0 < x.2 ∧ x.2 < 1073741824) (fun x r => r = .int (cdiv x.1 x.2))
theorem m_least_part : FMono f_least_part := fnX_mono
def f_common_of_two : DFn := fnX (α := Nat × Nat) (fun x => [.int x.1, .int x.2]) (fun _ => True) (fun x r => r = .int (Nat.gcd x.1 x.2 : Nat))
theorem m_common_of_two : FMono f_common_of_two := fnX_mono
def gcdL (ns : List Int) : Nat := ns.foldl (fun g n => Nat.gcd g n.natAbs) 0
def f_common_part : DFn := fnX (α := List Int) (fun ns => [tI ns]) (fun _ => True) (fun ns r => r = .int (gcdL ns : Nat))
theorem m_common_part : FMono f_common_part := fnX_mono
def f_are_wholes : DFn := fnX (α := List Int) (fun ns => [tI ns]) (fun ns => ns.length ≤ 1000000) (fun _ r => r = .bl true)
theorem m_are_wholes : FMono f_are_wholes := fnX_mono
def okS (ns : List Int) : Prop := 1 ≤ ns.length ∧ ns.length ≤ 11
def f_need_sum : DFn := fnX (α := List Int) (fun ns => [tI ns]) okS (fun _ r => r = .non)
theorem m_need_sum : FMono f_need_sum := fnX_mono
def f_plus_sums : DFn := fnX (α := List Int × List Int) (fun x => [tI x.1, tI x.2]) (fun x => okS x.1 ∧ x.1.length = x.2.length) (fun x r => r = tI (List.zipWith (· + ·) x.1 x.2))
theorem m_plus_sums : FMono f_plus_sums := fnX_mono
def f_times_sum : DFn := fnX (α := Int × List Int) (fun x => [.int x.1, tI x.2]) (fun x => okS x.2 ∧ -(2 ^ 64) < x.1 ∧ x.1 < 2 ^ 64) (fun x r => r = tI (x.2.map (x.1 * ·)))
theorem m_times_sum : FMono f_times_sum := fnX_mono
/-- a sum made plain -/
def plainS (fs : List Int) (c : Int) : List Int := if gcdL fs = 0 then fs ++ [if 0 < c then 1 else 0] else fs.map (· / (gcdL fs : Int)) ++ [cdiv c (gcdL fs : Int)]
def f_plain_sum : DFn := fnX (α := List Int × Int) (fun x => [tI (x.1 ++ [x.2])]) (fun x => x.1.length ≤ 10 ∧ gcdL x.1 < 1073741824) (fun x r => r = tI (plainS x.1 x.2))
theorem m_plain_sum : FMono f_plain_sum := fnX_mono
def f_need_sums : DFn := fnX (α := Bool × List (List Int)) (fun x => [sq x.1 (x.2.map tI)]) (fun x => ∀ s ∈ x.2, okS s) (fun _ r => r = .non)
theorem m_need_sums : FMono f_need_sums := fnX_mono
def f_need_alike : DFn := fnX (α := Bool × List (List Int) × Nat) (fun x => [sq x.1 (x.2.1.map tI), .int x.2.2]) (fun x => ∀ s ∈ x.2.1, s.length = x.2.2) (fun _ r => r = .non)
theorem m_need_alike : FMono f_need_alike := fnX_mono
/-- sums of n factors each, a place among them -/
structure CastOk (ss : List (List Int)) (n at_ : Nat) : Prop where
  ne : ss ≠ []
  few : ss.length ≤ 100
  len : ∀ s ∈ ss, s.length = n + 1
  n10 : n ≤ 10
  at_ : at_ < n
  sm : ∀ s ∈ ss, ∀ z ∈ s, -1000 ≤ z ∧ z ≤ 1000
abbrev CX1 := Bool × List (List Int) × Nat × Nat
def f_need_cast : DFn := fnX (α := CX1) (fun x => [sq x.1 (x.2.1.map tI), .int x.2.2.2]) (fun x => CastOk x.2.1 x.2.2.1 x.2.2.2) (fun _ r => r = .non)
theorem m_need_cast : FMono f_need_cast := fnX_mono
def facAt (s : List Int) (i : Nat) : Int := s.getD i 0
/-- the places whose sums have a factor below, above nought -/
def lowsOf (at_ : Nat) : Nat → List (List Int) → List Nat
  | _, [] => []
  | i, s :: r => if facAt s at_ < 0 then i :: lowsOf at_ (i + 1) r else lowsOf at_ (i + 1) r
def highsOf (at_ : Nat) : Nat → List (List Int) → List Nat
  | _, [] => []
  | i, s :: r => if 0 < facAt s at_ then i :: highsOf at_ (i + 1) r else highsOf at_ (i + 1) r
def pairsOf (ss : List (List Int)) (at_ : Nat) : List (Nat × Nat) := (lowsOf at_ 0 ss).flatMap fun l => (highsOf at_ 0 ss).map fun h => (l, h)
def nn (p : Nat × Nat) : D := .tup [.int p.1, .int p.2]
def f_pairs_of : DFn := fnX (α := CX1) (fun x => [sq x.1 (x.2.1.map tI), .int x.2.2.2]) (fun x => CastOk x.2.1 x.2.2.1 x.2.2.2) (fun x r => r = .lst ((pairsOf x.2.1 x.2.2.2).map nn))
theorem m_pairs_of : FMono f_pairs_of := fnX_mono
def pairS (l h : List Int) (at_ : Nat) : List Int := List.zipWith (· + ·) (l.map (facAt h at_ * ·)) (h.map ((0 - facAt l at_) * ·))
def f_pair_sum : DFn := fnX (α := List Int × List Int × Nat) (fun x => [tI x.1, tI x.2.1, .int x.2.2]) (fun x => okS x.1 ∧ x.1.length = x.2.1.length ∧ x.2.2 < x.1.length ∧ (∀ z ∈ x.1, -1000 ≤ z ∧ z ≤ 1000) ∧ ∀ z ∈ x.2.1, -1000 ≤ z ∧ z ≤ 1000) (fun x r => r = tI (pairS x.1 x.2.1 x.2.2))
theorem m_pair_sum : FMono f_pair_sum := fnX_mono
def isZ (ns : List Int) : Bool := ns.all fun z => decide (z = 0)
def f_always_holds : DFn := fnX (α := List Int) (fun ns => [tI ns]) (fun ns => 2 ≤ ns.length ∧ ns.length ≤ 11) (fun ns r => r = .bl (isZ ns))
theorem m_always_holds : FMono f_always_holds := fnX_mono
/-- a row: the plain sum, its making -/
inductive Mk | old (p : Nat) | pair (l h : Nat)
def Mk.d : Mk → D
  | .old p => .tup [.str "old", .int p]
  | .pair l h => .tup [.str "pair", .int l, .int h]
def rowD (r : List Int × Mk) : D := .tup [tI r.1, r.2.d]
def plainR (s : List Int) : List Int := plainS s.dropLast (s.getLastD 0)
def oldRows (at_ : Nat) : Nat → List (List Int) → List (List Int × Mk)
  | _, [] => []
  | i, s :: r => if facAt s at_ = 0 then (plainR s, .old i) :: oldRows at_ (i + 1) r else oldRows at_ (i + 1) r
def pairRow (ss : List (List Int)) (at_ : Nat) (p : Nat × Nat) : List Int × Mk := (plainR (pairS (ss.getD p.1 []) (ss.getD p.2 []) at_), .pair p.1 p.2)
def rowsOf (ss : List (List Int)) (at_ : Nat) : List (List Int × Mk) := (oldRows at_ 0 ss ++ (pairsOf ss at_).map (pairRow ss at_)).filter fun r => !isZ r.1
def f_cast_away : DFn := fnX (α := CX1) (fun x => [sq x.1 (x.2.1.map tI), .int x.2.2.2]) (fun x => CastOk x.2.1 x.2.2.1 x.2.2.2) (fun x r => r = .lst ((rowsOf x.2.1 x.2.2.2).map rowD))
theorem m_cast_away : FMono f_cast_away := fnX_mono
end K51
set_option Elab.async false
set_option linter.all false
set_option maxRecDepth 100000
set_option maxHeartbeats 4000000
namespace K51
open PySem PySem.Spec L2 DL
open PyProof.Rows hiding St
-- slots ['thing'], pu
def b_is_whole : DTS := (wSeq (wRet (wAnd (wUn (oIsi "int") (wV 0)) (wNot (wUn (oIsi "bool") (wV 0))))) wNext)
-- slots ['thing', 'low', 'high'], pu
def b_is_within : DTS := (wSeq (wRet (wAnd (wCall f_is_whole (wCons (wV 0) wNil)) (wChain oLe oLe (wV 1) (wV 0) (wV 2)))) wNext)
-- slots ['thing'], pu
def b_need_whole : DTS := (wSeq (wIf (wNotT (wTru (wCall f_is_whole (wCons (wV 0) wNil)))) (wSeq wNever wNext) wNext) wNext)
-- slots ['thing'], pu
def b_need_by : DTS := (wSeq (wExpr (wCall f_need_whole (wCons (wV 0) wNil))) (wSeq (wIf (wTest (wOp oLt (wV 0) (wC (.int 1)))) (wSeq wNever wNext) wNext) wNext))
-- slots ['top', 'by', 'whole', 'left'], pu
def b_least_part : DTS := (wSeq (wExpr (wCall f_need_whole (wCons (wV 0) wNil))) (wSeq (wExpr (wCall f_need_by (wCons (wV 1) wNil))) (wSeq (wAsg (wOp oDivmod (wV 0) (wV 1)) (wGtup 2 (wGcons (wGn 2) (wGcons (wGn 3) wGnil)))) (wSeq (wRet (wOp oAdd (wV 2) (wUn oInt (wOp oGt (wV 3) (wC (.int 0)))))) wNext))))
-- slots ['one', 'other'], pu
def b_common_of_two : DTS := (wSeq (wWhile (wTest (wOp oGt (wV 1) (wC (.int 0)))) (wSeq (wPar 0 1 (wCons (wV 1) (wCons (wOp oMod (wV 0) (wV 1)) wNil))) wNext)) (wSeq (wRet (wV 0)) wNext))
-- slots ['numbers', 'number', 'found'], pu
def b_common_part : DTS := (wSeq (wIf (wNotT (wTru (wUn (oIsi2 "list" "tuple") (wV 0)))) (wSeq wNever wNext) wNext) (wSeq (wFor (wSr (wV 0)) (wGn 1) (wSeq (wIf (wNotT (wTru (wCall f_is_whole (wCons (wV 1) wNil)))) (wSeq wNever wNext) wNext) wNext)) (wSeq (wSet 2 (wC (.int 0))) (wSeq (wFor (wSr (wV 0)) (wGn 1) (wSeq (wSet 2 (wCall f_common_of_two (wCons (wV 2) (wCons (wUn oAbs (wV 1)) wNil)))) wNext)) (wSeq (wRet (wV 2)) wNext)))))
-- slots ['thing', 'number'], pu
def b_are_wholes : DTS := (wSeq (wRet (wAnd (wUn (oIsi "tuple") (wV 0)) (wUn (oBs fun bs => .bl (bs.all id)) (wLc [1] (wSr (wV 0)) (wGn 1) wYes (wCall f_is_whole (wCons (wV 1) wNil)))))) wNext)
-- slots ['thing'], pu
def b_need_sum : DTS := (wSeq (wIf (wOrT (wNotT (wTru (wCall f_are_wholes (wCons (wV 0) wNil)))) (wNotT (wTest (wChain oLe oLe (wC (.int 1)) (wUn oLen (wV 0)) (wC (.int 11)))))) (wSeq wNever wNext) wNext) wNext)
-- slots ['one', 'other', 'here', 'there'], pu
def b_plus_sums : DTS := (wSeq (wExpr (wCall f_need_sum (wCons (wV 0) wNil))) (wSeq (wExpr (wCall f_need_sum (wCons (wV 1) wNil))) (wSeq (wIf (wTest (wOp oNe (wUn oLen (wV 0)) (wUn oLen (wV 1)))) (wSeq wNever wNext) wNext) (wSeq (wRet (wUn oTuple (wLc [2, 3] (wZp (wV 0) (wV 1)) (wGtup 2 (wGcons (wGn 2) (wGcons (wGn 3) wGnil))) wYes (wOp oAdd (wV 2) (wV 3))))) wNext))))
-- slots ['by', 'one', 'number'], pu
def b_times_sum : DTS := (wSeq (wIf (wNotT (wTru (wCall f_is_whole (wCons (wV 0) wNil)))) (wSeq wNever wNext) wNext) (wSeq (wExpr (wCall f_need_sum (wCons (wV 1) wNil))) (wSeq (wRet (wUn oTuple (wLc [2] (wSr (wV 1)) (wGn 2) wYes (wOp oMul (wV 0) (wV 2))))) wNext)))
-- slots ['one', 'by', 'factor'], pu
def b_plain_sum : DTS := (wSeq (wExpr (wCall f_need_sum (wCons (wV 0) wNil))) (wSeq (wSet 1 (wCall f_common_part (wCons (wSl (wV 0) wNoPart (wPart (wUn oNeg (wC (.int 1))))) wNil))) (wSeq (wIf (wTest (wOp oEq (wV 1) (wC (.int 0)))) (wSeq (wRet (wOp oAdd (wSl (wV 0) wNoPart (wPart (wUn oNeg (wC (.int 1))))) (wTup (wCons (wUn oInt (wOp oGt (wOp oIx (wV 0) (wUn oNeg (wC (.int 1)))) (wC (.int 0)))) wNil)))) wNext) wNext) (wSeq (wRet (wOp oAdd (wUn oTuple (wLc [2] (wSr (wSl (wV 0) wNoPart (wPart (wUn oNeg (wC (.int 1)))))) (wGn 2) wYes (wOp oFdiv (wV 2) (wV 1)))) (wTup (wCons (wCall f_least_part (wCons (wOp oIx (wV 0) (wUn oNeg (wC (.int 1)))) (wCons (wV 1) wNil))) wNil)))) wNext))))
-- slots ['things', 'thing'], pu
def b_need_sums : DTS := (wSeq (wIf (wNotT (wTru (wUn (oIsi2 "list" "tuple") (wV 0)))) (wSeq wNever wNext) wNext) (wSeq (wFor (wSr (wV 0)) (wGn 1) (wSeq (wExpr (wCall f_need_sum (wCons (wV 1) wNil))) wNext)) wNext))
-- slots ['sums', 'long', 'one'], pu
def b_need_alike : DTS := (wSeq (wFor (wSr (wV 0)) (wGn 2) (wSeq (wIf (wTest (wOp oNe (wUn oLen (wV 2)) (wV 1))) (wSeq wNever wNext) wNext) wNext)) wNext)
-- slots ['sums', 'at'], pu
def b_need_cast : DTS := (wSeq (wExpr (wCall f_need_sums (wCons (wV 0) wNil))) (wSeq (wIf (wTest (wOp oEq (wUn oLen (wV 0)) (wC (.int 0)))) (wSeq wNever wNext) wNext) (wSeq (wExpr (wCall f_need_alike (wCons (wV 0) (wCons (wUn oLen (wOp oIx (wV 0) (wC (.int 0)))) wNil)))) (wSeq (wIf (wNotT (wTru (wCall f_is_within (wCons (wV 1) (wCons (wC (.int 0)) (wCons (wOp oSub (wUn oLen (wOp oIx (wV 0) (wC (.int 0)))) (wC (.int 2))) wNil)))))) (wSeq wNever wNext) wNext) wNext))))
-- slots ['sums', 'at', 'lows', 'highs', 'found', 'low', 'place', 'one', 'high'], fr
def b_pairs_of : DTS := (wSeq (wSet 2 (wLc [6, 7] (wEn (wV 0)) (wGtup 2 (wGcons (wGn 6) (wGcons (wGn 7) wGnil))) (wTest (wOp oLt (wOp oIx (wV 7) (wV 1)) (wC (.int 0)))) (wV 6))) (wSeq (wSet 3 (wLc [6, 7] (wEn (wV 0)) (wGtup 2 (wGcons (wGn 6) (wGcons (wGn 7) wGnil))) (wTest (wOp oGt (wOp oIx (wV 7) (wV 1)) (wC (.int 0)))) (wV 6))) (wSeq (wSet 4 (wLst wNil)) (wSeq (wFor (wSr (wV 2)) (wGn 5) (wSeq (wExpr (wMeth 4 (wLc [8] (wSr (wV 3)) (wGn 8) wYes (wTup (wCons (wV 5) (wCons (wV 8) wNil)))) fExt)) wNext)) (wSeq (wRet (wV 4)) wNext)))))
-- slots ['low', 'high', 'at'], pu
def b_pair_sum : DTS := (wSeq (wRet (wCall f_plus_sums (wCons (wCall f_times_sum (wCons (wOp oIx (wV 1) (wV 2)) (wCons (wV 0) wNil))) (wCons (wCall f_times_sum (wCons (wOp oSub (wC (.int 0)) (wOp oIx (wV 0) (wV 2))) (wCons (wV 1) wNil))) wNil)))) wNext)
-- slots ['one'], pu
def b_always_holds : DTS := (wSeq (wRet (wOp oEq (wV 0) (wOp oMul (wTup (wCons (wC (.int 0)) wNil)) (wUn oLen (wV 0))))) wNext)
-- slots ['sums', 'at', 'rows', 'low', 'high', 'place', 'one', 'row'], fr
def b_cast_away : DTS := (wSeq (wExpr (wCall f_need_cast (wCons (wV 0) (wCons (wV 1) wNil)))) (wSeq (wSet 2 (wLc [5, 6] (wEn (wV 0)) (wGtup 2 (wGcons (wGn 5) (wGcons (wGn 6) wGnil))) (wTest (wOp oEq (wOp oIx (wV 6) (wV 1)) (wC (.int 0)))) (wTup (wCons (wCall f_plain_sum (wCons (wV 6) wNil)) (wCons (wTup (wCons (wC (.str "old")) (wCons (wV 5) wNil))) wNil))))) (wSeq (wFor (wSr (wCall f_pairs_of (wCons (wV 0) (wCons (wV 1) wNil)))) (wGtup 2 (wGcons (wGn 3) (wGcons (wGn 4) wGnil))) (wSeq (wExpr (wMeth 2 (wTup (wCons (wCall f_plain_sum (wCons (wCall f_pair_sum (wCons (wOp oIx (wV 0) (wV 3)) (wCons (wOp oIx (wV 0) (wV 4)) (wCons (wV 1) wNil)))) wNil)) (wCons (wTup (wCons (wC (.str "pair")) (wCons (wV 3) (wCons (wV 4) wNil)))) wNil))) fApp)) wNext)) (wSeq (wRet (wLc [7] (wSr (wV 2)) (wGn 7) (wNotT (wTru (wCall f_always_holds (wCons (wOp oIx (wV 7) (wC (.int 0))) wNil)))) (wV 7))) wNext))))
end K51
set_option Elab.async false
set_option linter.all false
set_option maxRecDepth 100000
set_option maxHeartbeats 4000000
namespace K51
open PySem PySem.Spec L2 DL
open PyProof.Rows hiding St
theorem eqD_int_self (i : Int) : eqD (.int i) (.int i) = true := by unfold eqD py; simp [PyData.eqv]
theorem eqD_int_ne {i j : Int} (h : i ≠ j) : eqD (.int i) (.int j) = false := by unfold eqD py; simp [PyData.eqv, h]
theorem eqD_int (i j : Int) : eqD (.int i) (.int j) = decide (i = j) := by
  by_cases h : i = j
  · subst h; rw [eqD_int_self, decide_eq_true rfl]
  · rw [eqD_int_ne h, decide_eq_false h]
theorem zp_ints : ∀ xs ys : List Int, zpD (xs.map D.int) (ys.map D.int) = (xs.zip ys).map fun p => .tup [.int p.1, .int p.2]
  | [], ys => by simp [zpD]
  | x :: xs, [] => by simp [zpD]
  | x :: xs, y :: ys => by
    show D.tup [.int x, .int y] :: zpD (xs.map D.int) (ys.map D.int) = _
    rw [zp_ints xs ys]; rfl
theorem mem_zp {xs ys : List Int} {d : D} (h : d ∈ zpD (xs.map D.int) (ys.map D.int)) : ∃ a b, d = .tup [.int a, .int b] := by
  rw [zp_ints] at h
  obtain ⟨p, _, e⟩ := List.mem_map.mp h
  exact ⟨p.1, p.2, e.symm⟩
theorem h_is_whole : ∀ ds EF PF, f_is_whole ds EF PF → ds.length = 1 ∧ bodyD 1 b_is_whole ds EF PF := by
  rintro ds EF PF ⟨d, rfl, p, q⟩
  refine ⟨rfl, ?_⟩
  unfold b_is_whole
  cases d <;> first
    | (cases p; done)
    | ((try simp only [wC_ap, wSetI_ap, wExpr_ap, wRet_ap, wRetN_ap, wRet0_ap, wIf_ap, wFor_ap, wWhile_ap, wBreak_ap, wCont_ap, wNever_ap, wPick_ap, wCallL_ap, wOp_ap, wIxO_ap, wNoPart_ap, wPart_ap, wSl_ap, wUn_ap, wTest_ap, wChain_ap, wTru_ap, wNotT_ap, wAndT_ap, wOrT_ap, wAnd_ap, wOr_ap, wNot_ap, wIfE_ap, wNil_ap, wCons_ap, wTup_ap, wLst_ap, wCall_ap, wCall0_ap, wCallIo_ap, wYes_ap, wGn_ap, wSr_ap, wEn_ap, wZp_ap, wRg1_ap, wRg2_ap, wLc_ap, wMeth_ap, wMeth0_ap, wNext_ap, wSeq_ap, wAsg_ap, wSet_ap, wV_ap, wPar_ap, par2_ap, wGnil_ap, wGcons_ap, wGtup_ap, sl_z, sl_s, set_z, set_s, wipe_z, wipe_s, rest_z, rest_s, oAdd_i, oAdd_t, oAdd_l, oAdd_s, oSub_i, oMul_i, oMul_t, oII_i, oII0_i, oIx_l, oIx_t, oIx_f, oIsN_n, oNotN_n, oLen_l, oLen_t, oLen_f, oInt_i, oInt_b, oI1_i, oNeg_i, oList_l, oList_t, oTuple_l, oTuple_t, oBs_l, oSl_l, oSl_t, oIsi_ap, oIsi2_ap, tyD_n, tyD_b, tyD_i, tyD_s, tyD_t, tyD_l, tyD_f, truD_n, truD_b, truD_i, truD_t, truD_l, asB_b, asI_i, asL_l, isL_l, isL_t, isL_i, isL_b, isL_n, itD_l, itD_t, itD_f, fApp_ap, fExt_ap, ex_some, onS_ap, ite_t, ite_f, bodyD_ap, ioD_c, start_ap, isi_int_NoneType, isi_int_bool, isi_int_int, isi_int_str, isi_int_tuple, isi_int_list, isi_int_dict, isi_bool_NoneType, isi_bool_bool, isi_bool_int, isi_bool_str, isi_bool_tuple, isi_bool_list, isi_bool_dict, isi_str_NoneType, isi_str_bool, isi_str_int, isi_str_str, isi_str_tuple, isi_str_list, isi_str_dict, isi_list_NoneType, isi_list_bool, isi_list_int, isi_list_str, isi_list_tuple, isi_list_list, isi_list_dict, isi_tuple_NoneType, isi_tuple_bool, isi_tuple_int, isi_tuple_str, isi_tuple_tuple, isi_tuple_list, isi_tuple_dict, isi_dict_NoneType, isi_dict_bool, isi_dict_int, isi_dict_str, isi_dict_tuple, isi_dict_list, isi_dict_dict, List.map_cons, List.map_nil, List.cons_append, List.nil_append, List.length_cons, List.length_nil, List.replicate_succ, List.replicate_zero, Nat.reduceAdd, Nat.reduceSub, Nat.zero_add, true_and, and_true, Bool.not_true, Bool.not_false, Bool.true_or, Bool.or_true, Bool.false_or, Bool.or_false, if_true, if_false, Bool.false_eq_true]); exact q _ _ rfl)
theorem h_is_within : ∀ ds EF PF, f_is_within ds EF PF → ds.length = 3 ∧ bodyD 3 b_is_within ds EF PF := by
  rintro ds EF PF ⟨⟨i, lo, hi⟩, rfl, p, q⟩
  refine ⟨rfl, ?_⟩
  unfold b_is_within
  (try simp only [wC_ap, wSetI_ap, wExpr_ap, wRet_ap, wRetN_ap, wRet0_ap, wIf_ap, wFor_ap, wWhile_ap, wBreak_ap, wCont_ap, wNever_ap, wPick_ap, wCallL_ap, wOp_ap, wIxO_ap, wNoPart_ap, wPart_ap, wSl_ap, wUn_ap, wTest_ap, wChain_ap, wTru_ap, wNotT_ap, wAndT_ap, wOrT_ap, wAnd_ap, wOr_ap, wNot_ap, wIfE_ap, wNil_ap, wCons_ap, wTup_ap, wLst_ap, wCall_ap, wCall0_ap, wCallIo_ap, wYes_ap, wGn_ap, wSr_ap, wEn_ap, wZp_ap, wRg1_ap, wRg2_ap, wLc_ap, wMeth_ap, wMeth0_ap, wNext_ap, wSeq_ap, wAsg_ap, wSet_ap, wV_ap, wPar_ap, par2_ap, wGnil_ap, wGcons_ap, wGtup_ap, sl_z, sl_s, set_z, set_s, wipe_z, wipe_s, rest_z, rest_s, oAdd_i, oAdd_t, oAdd_l, oAdd_s, oSub_i, oMul_i, oMul_t, oII_i, oII0_i, oIx_l, oIx_t, oIx_f, oIsN_n, oNotN_n, oLen_l, oLen_t, oLen_f, oInt_i, oInt_b, oI1_i, oNeg_i, oList_l, oList_t, oTuple_l, oTuple_t, oBs_l, oSl_l, oSl_t, oIsi_ap, oIsi2_ap, tyD_n, tyD_b, tyD_i, tyD_s, tyD_t, tyD_l, tyD_f, truD_n, truD_b, truD_i, truD_t, truD_l, asB_b, asI_i, asL_l, isL_l, isL_t, isL_i, isL_b, isL_n, itD_l, itD_t, itD_f, fApp_ap, fExt_ap, ex_some, onS_ap, ite_t, ite_f, bodyD_ap, ioD_c, start_ap, isi_int_NoneType, isi_int_bool, isi_int_int, isi_int_str, isi_int_tuple, isi_int_list, isi_int_dict, isi_bool_NoneType, isi_bool_bool, isi_bool_int, isi_bool_str, isi_bool_tuple, isi_bool_list, isi_bool_dict, isi_str_NoneType, isi_str_bool, isi_str_int, isi_str_str, isi_str_tuple, isi_str_list, isi_str_dict, isi_list_NoneType, isi_list_bool, isi_list_int, isi_list_str, isi_list_tuple, isi_list_list, isi_list_dict, isi_tuple_NoneType, isi_tuple_bool, isi_tuple_int, isi_tuple_str, isi_tuple_tuple, isi_tuple_list, isi_tuple_dict, isi_dict_NoneType, isi_dict_bool, isi_dict_int, isi_dict_str, isi_dict_tuple, isi_dict_list, isi_dict_dict, List.map_cons, List.map_nil, List.cons_append, List.nil_append, List.length_cons, List.length_nil, List.replicate_succ, List.replicate_zero, Nat.reduceAdd, Nat.reduceSub, Nat.zero_add, true_and, and_true, Bool.not_true, Bool.not_false, Bool.true_or, Bool.or_true, Bool.false_or, Bool.or_false, if_true, if_false, Bool.false_eq_true])
  refine ⟨.int i, rfl, rfl, ?_⟩
  rintro r c' rfl
  (try simp only [wC_ap, wSetI_ap, wExpr_ap, wRet_ap, wRetN_ap, wRet0_ap, wIf_ap, wFor_ap, wWhile_ap, wBreak_ap, wCont_ap, wNever_ap, wPick_ap, wCallL_ap, wOp_ap, wIxO_ap, wNoPart_ap, wPart_ap, wSl_ap, wUn_ap, wTest_ap, wChain_ap, wTru_ap, wNotT_ap, wAndT_ap, wOrT_ap, wAnd_ap, wOr_ap, wNot_ap, wIfE_ap, wNil_ap, wCons_ap, wTup_ap, wLst_ap, wCall_ap, wCall0_ap, wCallIo_ap, wYes_ap, wGn_ap, wSr_ap, wEn_ap, wZp_ap, wRg1_ap, wRg2_ap, wLc_ap, wMeth_ap, wMeth0_ap, wNext_ap, wSeq_ap, wAsg_ap, wSet_ap, wV_ap, wPar_ap, par2_ap, wGnil_ap, wGcons_ap, wGtup_ap, sl_z, sl_s, set_z, set_s, wipe_z, wipe_s, rest_z, rest_s, oAdd_i, oAdd_t, oAdd_l, oAdd_s, oSub_i, oMul_i, oMul_t, oII_i, oII0_i, oIx_l, oIx_t, oIx_f, oIsN_n, oNotN_n, oLen_l, oLen_t, oLen_f, oInt_i, oInt_b, oI1_i, oNeg_i, oList_l, oList_t, oTuple_l, oTuple_t, oBs_l, oSl_l, oSl_t, oIsi_ap, oIsi2_ap, tyD_n, tyD_b, tyD_i, tyD_s, tyD_t, tyD_l, tyD_f, truD_n, truD_b, truD_i, truD_t, truD_l, asB_b, asI_i, asL_l, isL_l, isL_t, isL_i, isL_b, isL_n, itD_l, itD_t, itD_f, fApp_ap, fExt_ap, ex_some, onS_ap, ite_t, ite_f, bodyD_ap, ioD_c, start_ap, isi_int_NoneType, isi_int_bool, isi_int_int, isi_int_str, isi_int_tuple, isi_int_list, isi_int_dict, isi_bool_NoneType, isi_bool_bool, isi_bool_int, isi_bool_str, isi_bool_tuple, isi_bool_list, isi_bool_dict, isi_str_NoneType, isi_str_bool, isi_str_int, isi_str_str, isi_str_tuple, isi_str_list, isi_str_dict, isi_list_NoneType, isi_list_bool, isi_list_int, isi_list_str, isi_list_tuple, isi_list_list, isi_list_dict, isi_tuple_NoneType, isi_tuple_bool, isi_tuple_int, isi_tuple_str, isi_tuple_tuple, isi_tuple_list, isi_tuple_dict, isi_dict_NoneType, isi_dict_bool, isi_dict_int, isi_dict_str, isi_dict_tuple, isi_dict_list, isi_dict_dict, List.map_cons, List.map_nil, List.cons_append, List.nil_append, List.length_cons, List.length_nil, List.replicate_succ, List.replicate_zero, Nat.reduceAdd, Nat.reduceSub, Nat.zero_add, true_and, and_true, Bool.not_true, Bool.not_false, Bool.true_or, Bool.or_true, Bool.false_or, Bool.or_false, if_true, if_false, Bool.false_eq_true, isW])
  by_cases h : lo ≤ i
  · rw [decide_eq_true h]
    (try simp only [wC_ap, wSetI_ap, wExpr_ap, wRet_ap, wRetN_ap, wRet0_ap, wIf_ap, wFor_ap, wWhile_ap, wBreak_ap, wCont_ap, wNever_ap, wPick_ap, wCallL_ap, wOp_ap, wIxO_ap, wNoPart_ap, wPart_ap, wSl_ap, wUn_ap, wTest_ap, wChain_ap, wTru_ap, wNotT_ap, wAndT_ap, wOrT_ap, wAnd_ap, wOr_ap, wNot_ap, wIfE_ap, wNil_ap, wCons_ap, wTup_ap, wLst_ap, wCall_ap, wCall0_ap, wCallIo_ap, wYes_ap, wGn_ap, wSr_ap, wEn_ap, wZp_ap, wRg1_ap, wRg2_ap, wLc_ap, wMeth_ap, wMeth0_ap, wNext_ap, wSeq_ap, wAsg_ap, wSet_ap, wV_ap, wPar_ap, par2_ap, wGnil_ap, wGcons_ap, wGtup_ap, sl_z, sl_s, set_z, set_s, wipe_z, wipe_s, rest_z, rest_s, oAdd_i, oAdd_t, oAdd_l, oAdd_s, oSub_i, oMul_i, oMul_t, oII_i, oII0_i, oIx_l, oIx_t, oIx_f, oIsN_n, oNotN_n, oLen_l, oLen_t, oLen_f, oInt_i, oInt_b, oI1_i, oNeg_i, oList_l, oList_t, oTuple_l, oTuple_t, oBs_l, oSl_l, oSl_t, oIsi_ap, oIsi2_ap, tyD_n, tyD_b, tyD_i, tyD_s, tyD_t, tyD_l, tyD_f, truD_n, truD_b, truD_i, truD_t, truD_l, asB_b, asI_i, asL_l, isL_l, isL_t, isL_i, isL_b, isL_n, itD_l, itD_t, itD_f, fApp_ap, fExt_ap, ex_some, onS_ap, ite_t, ite_f, bodyD_ap, ioD_c, start_ap, isi_int_NoneType, isi_int_bool, isi_int_int, isi_int_str, isi_int_tuple, isi_int_list, isi_int_dict, isi_bool_NoneType, isi_bool_bool, isi_bool_int, isi_bool_str, isi_bool_tuple, isi_bool_list, isi_bool_dict, isi_str_NoneType, isi_str_bool, isi_str_int, isi_str_str, isi_str_tuple, isi_str_list, isi_str_dict, isi_list_NoneType, isi_list_bool, isi_list_int, isi_list_str, isi_list_tuple, isi_list_list, isi_list_dict, isi_tuple_NoneType, isi_tuple_bool, isi_tuple_int, isi_tuple_str, isi_tuple_tuple, isi_tuple_list, isi_tuple_dict, isi_dict_NoneType, isi_dict_bool, isi_dict_int, isi_dict_str, isi_dict_tuple, isi_dict_list, isi_dict_dict, List.map_cons, List.map_nil, List.cons_append, List.nil_append, List.length_cons, List.length_nil, List.replicate_succ, List.replicate_zero, Nat.reduceAdd, Nat.reduceSub, Nat.zero_add, true_and, and_true, Bool.not_true, Bool.not_false, Bool.true_or, Bool.or_true, Bool.false_or, Bool.or_false, if_true, if_false, Bool.false_eq_true])
    refine q _ _ ?_
    show _ = D.bl (decide (lo ≤ i) && decide (i ≤ hi))
    rw [decide_eq_true h, Bool.true_and]
  · rw [decide_eq_false h]
    (try simp only [wC_ap, wSetI_ap, wExpr_ap, wRet_ap, wRetN_ap, wRet0_ap, wIf_ap, wFor_ap, wWhile_ap, wBreak_ap, wCont_ap, wNever_ap, wPick_ap, wCallL_ap, wOp_ap, wIxO_ap, wNoPart_ap, wPart_ap, wSl_ap, wUn_ap, wTest_ap, wChain_ap, wTru_ap, wNotT_ap, wAndT_ap, wOrT_ap, wAnd_ap, wOr_ap, wNot_ap, wIfE_ap, wNil_ap, wCons_ap, wTup_ap, wLst_ap, wCall_ap, wCall0_ap, wCallIo_ap, wYes_ap, wGn_ap, wSr_ap, wEn_ap, wZp_ap, wRg1_ap, wRg2_ap, wLc_ap, wMeth_ap, wMeth0_ap, wNext_ap, wSeq_ap, wAsg_ap, wSet_ap, wV_ap, wPar_ap, par2_ap, wGnil_ap, wGcons_ap, wGtup_ap, sl_z, sl_s, set_z, set_s, wipe_z, wipe_s, rest_z, rest_s, oAdd_i, oAdd_t, oAdd_l, oAdd_s, oSub_i, oMul_i, oMul_t, oII_i, oII0_i, oIx_l, oIx_t, oIx_f, oIsN_n, oNotN_n, oLen_l, oLen_t, oLen_f, oInt_i, oInt_b, oI1_i, oNeg_i, oList_l, oList_t, oTuple_l, oTuple_t, oBs_l, oSl_l, oSl_t, oIsi_ap, oIsi2_ap, tyD_n, tyD_b, tyD_i, tyD_s, tyD_t, tyD_l, tyD_f, truD_n, truD_b, truD_i, truD_t, truD_l, asB_b, asI_i, asL_l, isL_l, isL_t, isL_i, isL_b, isL_n, itD_l, itD_t, itD_f, fApp_ap, fExt_ap, ex_some, onS_ap, ite_t, ite_f, bodyD_ap, ioD_c, start_ap, isi_int_NoneType, isi_int_bool, isi_int_int, isi_int_str, isi_int_tuple, isi_int_list, isi_int_dict, isi_bool_NoneType, isi_bool_bool, isi_bool_int, isi_bool_str, isi_bool_tuple, isi_bool_list, isi_bool_dict, isi_str_NoneType, isi_str_bool, isi_str_int, isi_str_str, isi_str_tuple, isi_str_list, isi_str_dict, isi_list_NoneType, isi_list_bool, isi_list_int, isi_list_str, isi_list_tuple, isi_list_list, isi_list_dict, isi_tuple_NoneType, isi_tuple_bool, isi_tuple_int, isi_tuple_str, isi_tuple_tuple, isi_tuple_list, isi_tuple_dict, isi_dict_NoneType, isi_dict_bool, isi_dict_int, isi_dict_str, isi_dict_tuple, isi_dict_list, isi_dict_dict, List.map_cons, List.map_nil, List.cons_append, List.nil_append, List.length_cons, List.length_nil, List.replicate_succ, List.replicate_zero, Nat.reduceAdd, Nat.reduceSub, Nat.zero_add, true_and, and_true, Bool.not_true, Bool.not_false, Bool.true_or, Bool.or_true, Bool.false_or, Bool.or_false, if_true, if_false, Bool.false_eq_true])
    refine q _ _ ?_
    show _ = D.bl (decide (lo ≤ i) && decide (i ≤ hi))
    rw [decide_eq_false h, Bool.false_and]
theorem h_need_whole : ∀ ds EF PF, f_need_whole ds EF PF → ds.length = 1 ∧ bodyD 1 b_need_whole ds EF PF := by
  rintro ds EF PF ⟨i, rfl, p, q⟩
  refine ⟨rfl, ?_⟩
  unfold b_need_whole
  (try simp only [wC_ap, wSetI_ap, wExpr_ap, wRet_ap, wRetN_ap, wRet0_ap, wIf_ap, wFor_ap, wWhile_ap, wBreak_ap, wCont_ap, wNever_ap, wPick_ap, wCallL_ap, wOp_ap, wIxO_ap, wNoPart_ap, wPart_ap, wSl_ap, wUn_ap, wTest_ap, wChain_ap, wTru_ap, wNotT_ap, wAndT_ap, wOrT_ap, wAnd_ap, wOr_ap, wNot_ap, wIfE_ap, wNil_ap, wCons_ap, wTup_ap, wLst_ap, wCall_ap, wCall0_ap, wCallIo_ap, wYes_ap, wGn_ap, wSr_ap, wEn_ap, wZp_ap, wRg1_ap, wRg2_ap, wLc_ap, wMeth_ap, wMeth0_ap, wNext_ap, wSeq_ap, wAsg_ap, wSet_ap, wV_ap, wPar_ap, par2_ap, wGnil_ap, wGcons_ap, wGtup_ap, sl_z, sl_s, set_z, set_s, wipe_z, wipe_s, rest_z, rest_s, oAdd_i, oAdd_t, oAdd_l, oAdd_s, oSub_i, oMul_i, oMul_t, oII_i, oII0_i, oIx_l, oIx_t, oIx_f, oIsN_n, oNotN_n, oLen_l, oLen_t, oLen_f, oInt_i, oInt_b, oI1_i, oNeg_i, oList_l, oList_t, oTuple_l, oTuple_t, oBs_l, oSl_l, oSl_t, oIsi_ap, oIsi2_ap, tyD_n, tyD_b, tyD_i, tyD_s, tyD_t, tyD_l, tyD_f, truD_n, truD_b, truD_i, truD_t, truD_l, asB_b, asI_i, asL_l, isL_l, isL_t, isL_i, isL_b, isL_n, itD_l, itD_t, itD_f, fApp_ap, fExt_ap, ex_some, onS_ap, ite_t, ite_f, bodyD_ap, ioD_c, start_ap, isi_int_NoneType, isi_int_bool, isi_int_int, isi_int_str, isi_int_tuple, isi_int_list, isi_int_dict, isi_bool_NoneType, isi_bool_bool, isi_bool_int, isi_bool_str, isi_bool_tuple, isi_bool_list, isi_bool_dict, isi_str_NoneType, isi_str_bool, isi_str_int, isi_str_str, isi_str_tuple, isi_str_list, isi_str_dict, isi_list_NoneType, isi_list_bool, isi_list_int, isi_list_str, isi_list_tuple, isi_list_list, isi_list_dict, isi_tuple_NoneType, isi_tuple_bool, isi_tuple_int, isi_tuple_str, isi_tuple_tuple, isi_tuple_list, isi_tuple_dict, isi_dict_NoneType, isi_dict_bool, isi_dict_int, isi_dict_str, isi_dict_tuple, isi_dict_list, isi_dict_dict, List.map_cons, List.map_nil, List.cons_append, List.nil_append, List.length_cons, List.length_nil, List.replicate_succ, List.replicate_zero, Nat.reduceAdd, Nat.reduceSub, Nat.zero_add, true_and, and_true, Bool.not_true, Bool.not_false, Bool.true_or, Bool.or_true, Bool.false_or, Bool.or_false, if_true, if_false, Bool.false_eq_true])
  refine ⟨.int i, rfl, rfl, ?_⟩
  rintro r c' rfl
  (try simp only [wC_ap, wSetI_ap, wExpr_ap, wRet_ap, wRetN_ap, wRet0_ap, wIf_ap, wFor_ap, wWhile_ap, wBreak_ap, wCont_ap, wNever_ap, wPick_ap, wCallL_ap, wOp_ap, wIxO_ap, wNoPart_ap, wPart_ap, wSl_ap, wUn_ap, wTest_ap, wChain_ap, wTru_ap, wNotT_ap, wAndT_ap, wOrT_ap, wAnd_ap, wOr_ap, wNot_ap, wIfE_ap, wNil_ap, wCons_ap, wTup_ap, wLst_ap, wCall_ap, wCall0_ap, wCallIo_ap, wYes_ap, wGn_ap, wSr_ap, wEn_ap, wZp_ap, wRg1_ap, wRg2_ap, wLc_ap, wMeth_ap, wMeth0_ap, wNext_ap, wSeq_ap, wAsg_ap, wSet_ap, wV_ap, wPar_ap, par2_ap, wGnil_ap, wGcons_ap, wGtup_ap, sl_z, sl_s, set_z, set_s, wipe_z, wipe_s, rest_z, rest_s, oAdd_i, oAdd_t, oAdd_l, oAdd_s, oSub_i, oMul_i, oMul_t, oII_i, oII0_i, oIx_l, oIx_t, oIx_f, oIsN_n, oNotN_n, oLen_l, oLen_t, oLen_f, oInt_i, oInt_b, oI1_i, oNeg_i, oList_l, oList_t, oTuple_l, oTuple_t, oBs_l, oSl_l, oSl_t, oIsi_ap, oIsi2_ap, tyD_n, tyD_b, tyD_i, tyD_s, tyD_t, tyD_l, tyD_f, truD_n, truD_b, truD_i, truD_t, truD_l, asB_b, asI_i, asL_l, isL_l, isL_t, isL_i, isL_b, isL_n, itD_l, itD_t, itD_f, fApp_ap, fExt_ap, ex_some, onS_ap, ite_t, ite_f, bodyD_ap, ioD_c, start_ap, isi_int_NoneType, isi_int_bool, isi_int_int, isi_int_str, isi_int_tuple, isi_int_list, isi_int_dict, isi_bool_NoneType, isi_bool_bool, isi_bool_int, isi_bool_str, isi_bool_tuple, isi_bool_list, isi_bool_dict, isi_str_NoneType, isi_str_bool, isi_str_int, isi_str_str, isi_str_tuple, isi_str_list, isi_str_dict, isi_list_NoneType, isi_list_bool, isi_list_int, isi_list_str, isi_list_tuple, isi_list_list, isi_list_dict, isi_tuple_NoneType, isi_tuple_bool, isi_tuple_int, isi_tuple_str, isi_tuple_tuple, isi_tuple_list, isi_tuple_dict, isi_dict_NoneType, isi_dict_bool, isi_dict_int, isi_dict_str, isi_dict_tuple, isi_dict_list, isi_dict_dict, List.map_cons, List.map_nil, List.cons_append, List.nil_append, List.length_cons, List.length_nil, List.replicate_succ, List.replicate_zero, Nat.reduceAdd, Nat.reduceSub, Nat.zero_add, true_and, and_true, Bool.not_true, Bool.not_false, Bool.true_or, Bool.or_true, Bool.false_or, Bool.or_false, if_true, if_false, Bool.false_eq_true, isW])
  exact q _ _ rfl
theorem h_need_by : ∀ ds EF PF, f_need_by ds EF PF → ds.length = 1 ∧ bodyD 1 b_need_by ds EF PF := by
  rintro ds EF PF ⟨i, rfl, p, q⟩
  refine ⟨rfl, ?_⟩
  unfold b_need_by
  (try simp only [wC_ap, wSetI_ap, wExpr_ap, wRet_ap, wRetN_ap, wRet0_ap, wIf_ap, wFor_ap, wWhile_ap, wBreak_ap, wCont_ap, wNever_ap, wPick_ap, wCallL_ap, wOp_ap, wIxO_ap, wNoPart_ap, wPart_ap, wSl_ap, wUn_ap, wTest_ap, wChain_ap, wTru_ap, wNotT_ap, wAndT_ap, wOrT_ap, wAnd_ap, wOr_ap, wNot_ap, wIfE_ap, wNil_ap, wCons_ap, wTup_ap, wLst_ap, wCall_ap, wCall0_ap, wCallIo_ap, wYes_ap, wGn_ap, wSr_ap, wEn_ap, wZp_ap, wRg1_ap, wRg2_ap, wLc_ap, wMeth_ap, wMeth0_ap, wNext_ap, wSeq_ap, wAsg_ap, wSet_ap, wV_ap, wPar_ap, par2_ap, wGnil_ap, wGcons_ap, wGtup_ap, sl_z, sl_s, set_z, set_s, wipe_z, wipe_s, rest_z, rest_s, oAdd_i, oAdd_t, oAdd_l, oAdd_s, oSub_i, oMul_i, oMul_t, oII_i, oII0_i, oIx_l, oIx_t, oIx_f, oIsN_n, oNotN_n, oLen_l, oLen_t, oLen_f, oInt_i, oInt_b, oI1_i, oNeg_i, oList_l, oList_t, oTuple_l, oTuple_t, oBs_l, oSl_l, oSl_t, oIsi_ap, oIsi2_ap, tyD_n, tyD_b, tyD_i, tyD_s, tyD_t, tyD_l, tyD_f, truD_n, truD_b, truD_i, truD_t, truD_l, asB_b, asI_i, asL_l, isL_l, isL_t, isL_i, isL_b, isL_n, itD_l, itD_t, itD_f, fApp_ap, fExt_ap, ex_some, onS_ap, ite_t, ite_f, bodyD_ap, ioD_c, start_ap, isi_int_NoneType, isi_int_bool, isi_int_int, isi_int_str, isi_int_tuple, isi_int_list, isi_int_dict, isi_bool_NoneType, isi_bool_bool, isi_bool_int, isi_bool_str, isi_bool_tuple, isi_bool_list, isi_bool_dict, isi_str_NoneType, isi_str_bool, isi_str_int, isi_str_str, isi_str_tuple, isi_str_list, isi_str_dict, isi_list_NoneType, isi_list_bool, isi_list_int, isi_list_str, isi_list_tuple, isi_list_list, isi_list_dict, isi_tuple_NoneType, isi_tuple_bool, isi_tuple_int, isi_tuple_str, isi_tuple_tuple, isi_tuple_list, isi_tuple_dict, isi_dict_NoneType, isi_dict_bool, isi_dict_int, isi_dict_str, isi_dict_tuple, isi_dict_list, isi_dict_dict, List.map_cons, List.map_nil, List.cons_append, List.nil_append, List.length_cons, List.length_nil, List.replicate_succ, List.replicate_zero, Nat.reduceAdd, Nat.reduceSub, Nat.zero_add, true_and, and_true, Bool.not_true, Bool.not_false, Bool.true_or, Bool.or_true, Bool.false_or, Bool.or_false, if_true, if_false, Bool.false_eq_true])
  refine ⟨i, rfl, trivial, ?_⟩
  rintro r c' rfl
  have h : decide (i < 1) = false := decide_eq_false (by have : 1 ≤ i := p; omega)
  (try simp only [wC_ap, wSetI_ap, wExpr_ap, wRet_ap, wRetN_ap, wRet0_ap, wIf_ap, wFor_ap, wWhile_ap, wBreak_ap, wCont_ap, wNever_ap, wPick_ap, wCallL_ap, wOp_ap, wIxO_ap, wNoPart_ap, wPart_ap, wSl_ap, wUn_ap, wTest_ap, wChain_ap, wTru_ap, wNotT_ap, wAndT_ap, wOrT_ap, wAnd_ap, wOr_ap, wNot_ap, wIfE_ap, wNil_ap, wCons_ap, wTup_ap, wLst_ap, wCall_ap, wCall0_ap, wCallIo_ap, wYes_ap, wGn_ap, wSr_ap, wEn_ap, wZp_ap, wRg1_ap, wRg2_ap, wLc_ap, wMeth_ap, wMeth0_ap, wNext_ap, wSeq_ap, wAsg_ap, wSet_ap, wV_ap, wPar_ap, par2_ap, wGnil_ap, wGcons_ap, wGtup_ap, sl_z, sl_s, set_z, set_s, wipe_z, wipe_s, rest_z, rest_s, oAdd_i, oAdd_t, oAdd_l, oAdd_s, oSub_i, oMul_i, oMul_t, oII_i, oII0_i, oIx_l, oIx_t, oIx_f, oIsN_n, oNotN_n, oLen_l, oLen_t, oLen_f, oInt_i, oInt_b, oI1_i, oNeg_i, oList_l, oList_t, oTuple_l, oTuple_t, oBs_l, oSl_l, oSl_t, oIsi_ap, oIsi2_ap, tyD_n, tyD_b, tyD_i, tyD_s, tyD_t, tyD_l, tyD_f, truD_n, truD_b, truD_i, truD_t, truD_l, asB_b, asI_i, asL_l, isL_l, isL_t, isL_i, isL_b, isL_n, itD_l, itD_t, itD_f, fApp_ap, fExt_ap, ex_some, onS_ap, ite_t, ite_f, bodyD_ap, ioD_c, start_ap, isi_int_NoneType, isi_int_bool, isi_int_int, isi_int_str, isi_int_tuple, isi_int_list, isi_int_dict, isi_bool_NoneType, isi_bool_bool, isi_bool_int, isi_bool_str, isi_bool_tuple, isi_bool_list, isi_bool_dict, isi_str_NoneType, isi_str_bool, isi_str_int, isi_str_str, isi_str_tuple, isi_str_list, isi_str_dict, isi_list_NoneType, isi_list_bool, isi_list_int, isi_list_str, isi_list_tuple, isi_list_list, isi_list_dict, isi_tuple_NoneType, isi_tuple_bool, isi_tuple_int, isi_tuple_str, isi_tuple_tuple, isi_tuple_list, isi_tuple_dict, isi_dict_NoneType, isi_dict_bool, isi_dict_int, isi_dict_str, isi_dict_tuple, isi_dict_list, isi_dict_dict, List.map_cons, List.map_nil, List.cons_append, List.nil_append, List.length_cons, List.length_nil, List.replicate_succ, List.replicate_zero, Nat.reduceAdd, Nat.reduceSub, Nat.zero_add, true_and, and_true, Bool.not_true, Bool.not_false, Bool.true_or, Bool.or_true, Bool.false_or, Bool.or_false, if_true, if_false, Bool.false_eq_true, h])
  exact q _ _ rfl
theorem h_least_part : ∀ ds EF PF, f_least_part ds EF PF → ds.length = 2 ∧ bodyD 4 b_least_part ds EF PF := by
  rintro ds EF PF ⟨⟨t, b⟩, rfl, ⟨p1, p2⟩, q⟩
  refine ⟨rfl, ?_⟩
  unfold b_least_part
  (try simp only [wC_ap, wSetI_ap, wExpr_ap, wRet_ap, wRetN_ap, wRet0_ap, wIf_ap, wFor_ap, wWhile_ap, wBreak_ap, wCont_ap, wNever_ap, wPick_ap, wCallL_ap, wOp_ap, wIxO_ap, wNoPart_ap, wPart_ap, wSl_ap, wUn_ap, wTest_ap, wChain_ap, wTru_ap, wNotT_ap, wAndT_ap, wOrT_ap, wAnd_ap, wOr_ap, wNot_ap, wIfE_ap, wNil_ap, wCons_ap, wTup_ap, wLst_ap, wCall_ap, wCall0_ap, wCallIo_ap, wYes_ap, wGn_ap, wSr_ap, wEn_ap, wZp_ap, wRg1_ap, wRg2_ap, wLc_ap, wMeth_ap, wMeth0_ap, wNext_ap, wSeq_ap, wAsg_ap, wSet_ap, wV_ap, wPar_ap, par2_ap, wGnil_ap, wGcons_ap, wGtup_ap, sl_z, sl_s, set_z, set_s, wipe_z, wipe_s, rest_z, rest_s, oAdd_i, oAdd_t, oAdd_l, oAdd_s, oSub_i, oMul_i, oMul_t, oII_i, oII0_i, oIx_l, oIx_t, oIx_f, oIsN_n, oNotN_n, oLen_l, oLen_t, oLen_f, oInt_i, oInt_b, oI1_i, oNeg_i, oList_l, oList_t, oTuple_l, oTuple_t, oBs_l, oSl_l, oSl_t, oIsi_ap, oIsi2_ap, tyD_n, tyD_b, tyD_i, tyD_s, tyD_t, tyD_l, tyD_f, truD_n, truD_b, truD_i, truD_t, truD_l, asB_b, asI_i, asL_l, isL_l, isL_t, isL_i, isL_b, isL_n, itD_l, itD_t, itD_f, fApp_ap, fExt_ap, ex_some, onS_ap, ite_t, ite_f, bodyD_ap, ioD_c, start_ap, isi_int_NoneType, isi_int_bool, isi_int_int, isi_int_str, isi_int_tuple, isi_int_list, isi_int_dict, isi_bool_NoneType, isi_bool_bool, isi_bool_int, isi_bool_str, isi_bool_tuple, isi_bool_list, isi_bool_dict, isi_str_NoneType, isi_str_bool, isi_str_int, isi_str_str, isi_str_tuple, isi_str_list, isi_str_dict, isi_list_NoneType, isi_list_bool, isi_list_int, isi_list_str, isi_list_tuple, isi_list_list, isi_list_dict, isi_tuple_NoneType, isi_tuple_bool, isi_tuple_int, isi_tuple_str, isi_tuple_tuple, isi_tuple_list, isi_tuple_dict, isi_dict_NoneType, isi_dict_bool, isi_dict_int, isi_dict_str, isi_dict_tuple, isi_dict_list, isi_dict_dict, List.map_cons, List.map_nil, List.cons_append, List.nil_append, List.length_cons, List.length_nil, List.replicate_succ, List.replicate_zero, Nat.reduceAdd, Nat.reduceSub, Nat.zero_add, true_and, and_true, Bool.not_true, Bool.not_false, Bool.true_or, Bool.or_true, Bool.false_or, Bool.or_false, if_true, if_false, Bool.false_eq_true])
  refine ⟨t, rfl, trivial, ?_⟩
  rintro r c' rfl
  refine ⟨b, rfl, (by show 1 ≤ b; have : 0 < b := p1; omega), ?_⟩
  rintro r c' rfl
  refine ⟨⟨p1, p2⟩, ?_⟩
  refine q _ _ ?_
  unfold cdiv
  by_cases h : 0 < t % b
  · simp [h]
  · simp [h]
theorem h_common_of_two : ∀ ds EF PF, f_common_of_two ds EF PF → ds.length = 2 ∧ bodyD 2 b_common_of_two ds EF PF := by
  rintro ds EF PF ⟨⟨a, b⟩, rfl, p, q⟩
  refine ⟨rfl, ?_⟩
  unfold b_common_of_two
  (try simp only [wC_ap, wSetI_ap, wExpr_ap, wRet_ap, wRetN_ap, wRet0_ap, wIf_ap, wFor_ap, wWhile_ap, wBreak_ap, wCont_ap, wNever_ap, wPick_ap, wCallL_ap, wOp_ap, wIxO_ap, wNoPart_ap, wPart_ap, wSl_ap, wUn_ap, wTest_ap, wChain_ap, wTru_ap, wNotT_ap, wAndT_ap, wOrT_ap, wAnd_ap, wOr_ap, wNot_ap, wIfE_ap, wNil_ap, wCons_ap, wTup_ap, wLst_ap, wCall_ap, wCall0_ap, wCallIo_ap, wYes_ap, wGn_ap, wSr_ap, wEn_ap, wZp_ap, wRg1_ap, wRg2_ap, wLc_ap, wMeth_ap, wMeth0_ap, wNext_ap, wSeq_ap, wAsg_ap, wSet_ap, wV_ap, wPar_ap, par2_ap, wGnil_ap, wGcons_ap, wGtup_ap, sl_z, sl_s, set_z, set_s, wipe_z, wipe_s, rest_z, rest_s, oAdd_i, oAdd_t, oAdd_l, oAdd_s, oSub_i, oMul_i, oMul_t, oII_i, oII0_i, oIx_l, oIx_t, oIx_f, oIsN_n, oNotN_n, oLen_l, oLen_t, oLen_f, oInt_i, oInt_b, oI1_i, oNeg_i, oList_l, oList_t, oTuple_l, oTuple_t, oBs_l, oSl_l, oSl_t, oIsi_ap, oIsi2_ap, tyD_n, tyD_b, tyD_i, tyD_s, tyD_t, tyD_l, tyD_f, truD_n, truD_b, truD_i, truD_t, truD_l, asB_b, asI_i, asL_l, isL_l, isL_t, isL_i, isL_b, isL_n, itD_l, itD_t, itD_f, fApp_ap, fExt_ap, ex_some, onS_ap, ite_t, ite_f, bodyD_ap, ioD_c, start_ap, isi_int_NoneType, isi_int_bool, isi_int_int, isi_int_str, isi_int_tuple, isi_int_list, isi_int_dict, isi_bool_NoneType, isi_bool_bool, isi_bool_int, isi_bool_str, isi_bool_tuple, isi_bool_list, isi_bool_dict, isi_str_NoneType, isi_str_bool, isi_str_int, isi_str_str, isi_str_tuple, isi_str_list, isi_str_dict, isi_list_NoneType, isi_list_bool, isi_list_int, isi_list_str, isi_list_tuple, isi_list_list, isi_list_dict, isi_tuple_NoneType, isi_tuple_bool, isi_tuple_int, isi_tuple_str, isi_tuple_tuple, isi_tuple_list, isi_tuple_dict, isi_dict_NoneType, isi_dict_bool, isi_dict_int, isi_dict_str, isi_dict_tuple, isi_dict_list, isi_dict_dict, List.map_cons, List.map_nil, List.cons_append, List.nil_append, List.length_cons, List.length_nil, List.replicate_succ, List.replicate_zero, Nat.reduceAdd, Nat.reduceSub, Nat.zero_add, true_and, and_true, Bool.not_true, Bool.not_false, Bool.true_or, Bool.or_true, Bool.false_or, Bool.or_false, if_true, if_false, Bool.false_eq_true])
  refine wh_inv (fun ε => ∃ a' b' : Nat, ε = [some (.int a'), some (.int b')] ∧ Nat.gcd a' b' = Nat.gcd a b) (fun ε => match sl ε 1 with | some (.int b) => b.toNat | _ => 0) ?_ ⟨a, b, rfl, rfl⟩
  rintro ε ⟨a', b', rfl, hg⟩ N hN
  (try simp only [wC_ap, wSetI_ap, wExpr_ap, wRet_ap, wRetN_ap, wRet0_ap, wIf_ap, wFor_ap, wWhile_ap, wBreak_ap, wCont_ap, wNever_ap, wPick_ap, wCallL_ap, wOp_ap, wIxO_ap, wNoPart_ap, wPart_ap, wSl_ap, wUn_ap, wTest_ap, wChain_ap, wTru_ap, wNotT_ap, wAndT_ap, wOrT_ap, wAnd_ap, wOr_ap, wNot_ap, wIfE_ap, wNil_ap, wCons_ap, wTup_ap, wLst_ap, wCall_ap, wCall0_ap, wCallIo_ap, wYes_ap, wGn_ap, wSr_ap, wEn_ap, wZp_ap, wRg1_ap, wRg2_ap, wLc_ap, wMeth_ap, wMeth0_ap, wNext_ap, wSeq_ap, wAsg_ap, wSet_ap, wV_ap, wPar_ap, par2_ap, wGnil_ap, wGcons_ap, wGtup_ap, sl_z, sl_s, set_z, set_s, wipe_z, wipe_s, rest_z, rest_s, oAdd_i, oAdd_t, oAdd_l, oAdd_s, oSub_i, oMul_i, oMul_t, oII_i, oII0_i, oIx_l, oIx_t, oIx_f, oIsN_n, oNotN_n, oLen_l, oLen_t, oLen_f, oInt_i, oInt_b, oI1_i, oNeg_i, oList_l, oList_t, oTuple_l, oTuple_t, oBs_l, oSl_l, oSl_t, oIsi_ap, oIsi2_ap, tyD_n, tyD_b, tyD_i, tyD_s, tyD_t, tyD_l, tyD_f, truD_n, truD_b, truD_i, truD_t, truD_l, asB_b, asI_i, asL_l, isL_l, isL_t, isL_i, isL_b, isL_n, itD_l, itD_t, itD_f, fApp_ap, fExt_ap, ex_some, onS_ap, ite_t, ite_f, bodyD_ap, ioD_c, start_ap, isi_int_NoneType, isi_int_bool, isi_int_int, isi_int_str, isi_int_tuple, isi_int_list, isi_int_dict, isi_bool_NoneType, isi_bool_bool, isi_bool_int, isi_bool_str, isi_bool_tuple, isi_bool_list, isi_bool_dict, isi_str_NoneType, isi_str_bool, isi_str_int, isi_str_str, isi_str_tuple, isi_str_list, isi_str_dict, isi_list_NoneType, isi_list_bool, isi_list_int, isi_list_str, isi_list_tuple, isi_list_list, isi_list_dict, isi_tuple_NoneType, isi_tuple_bool, isi_tuple_int, isi_tuple_str, isi_tuple_tuple, isi_tuple_list, isi_tuple_dict, isi_dict_NoneType, isi_dict_bool, isi_dict_int, isi_dict_str, isi_dict_tuple, isi_dict_list, isi_dict_dict, List.map_cons, List.map_nil, List.cons_append, List.nil_append, List.length_cons, List.length_nil, List.replicate_succ, List.replicate_zero, Nat.reduceAdd, Nat.reduceSub, Nat.zero_add, true_and, and_true, Bool.not_true, Bool.not_false, Bool.true_or, Bool.or_true, Bool.false_or, Bool.or_false, if_true, if_false, Bool.false_eq_true])
  by_cases h : 0 < (b' : Int)
  · rw [decide_eq_true h]
    (try simp only [wC_ap, wSetI_ap, wExpr_ap, wRet_ap, wRetN_ap, wRet0_ap, wIf_ap, wFor_ap, wWhile_ap, wBreak_ap, wCont_ap, wNever_ap, wPick_ap, wCallL_ap, wOp_ap, wIxO_ap, wNoPart_ap, wPart_ap, wSl_ap, wUn_ap, wTest_ap, wChain_ap, wTru_ap, wNotT_ap, wAndT_ap, wOrT_ap, wAnd_ap, wOr_ap, wNot_ap, wIfE_ap, wNil_ap, wCons_ap, wTup_ap, wLst_ap, wCall_ap, wCall0_ap, wCallIo_ap, wYes_ap, wGn_ap, wSr_ap, wEn_ap, wZp_ap, wRg1_ap, wRg2_ap, wLc_ap, wMeth_ap, wMeth0_ap, wNext_ap, wSeq_ap, wAsg_ap, wSet_ap, wV_ap, wPar_ap, par2_ap, wGnil_ap, wGcons_ap, wGtup_ap, sl_z, sl_s, set_z, set_s, wipe_z, wipe_s, rest_z, rest_s, oAdd_i, oAdd_t, oAdd_l, oAdd_s, oSub_i, oMul_i, oMul_t, oII_i, oII0_i, oIx_l, oIx_t, oIx_f, oIsN_n, oNotN_n, oLen_l, oLen_t, oLen_f, oInt_i, oInt_b, oI1_i, oNeg_i, oList_l, oList_t, oTuple_l, oTuple_t, oBs_l, oSl_l, oSl_t, oIsi_ap, oIsi2_ap, tyD_n, tyD_b, tyD_i, tyD_s, tyD_t, tyD_l, tyD_f, truD_n, truD_b, truD_i, truD_t, truD_l, asB_b, asI_i, asL_l, isL_l, isL_t, isL_i, isL_b, isL_n, itD_l, itD_t, itD_f, fApp_ap, fExt_ap, ex_some, onS_ap, ite_t, ite_f, bodyD_ap, ioD_c, start_ap, isi_int_NoneType, isi_int_bool, isi_int_int, isi_int_str, isi_int_tuple, isi_int_list, isi_int_dict, isi_bool_NoneType, isi_bool_bool, isi_bool_int, isi_bool_str, isi_bool_tuple, isi_bool_list, isi_bool_dict, isi_str_NoneType, isi_str_bool, isi_str_int, isi_str_str, isi_str_tuple, isi_str_list, isi_str_dict, isi_list_NoneType, isi_list_bool, isi_list_int, isi_list_str, isi_list_tuple, isi_list_list, isi_list_dict, isi_tuple_NoneType, isi_tuple_bool, isi_tuple_int, isi_tuple_str, isi_tuple_tuple, isi_tuple_list, isi_tuple_dict, isi_dict_NoneType, isi_dict_bool, isi_dict_int, isi_dict_str, isi_dict_tuple, isi_dict_list, isi_dict_dict, List.map_cons, List.map_nil, List.cons_append, List.nil_append, List.length_cons, List.length_nil, List.replicate_succ, List.replicate_zero, Nat.reduceAdd, Nat.reduceSub, Nat.zero_add, true_and, and_true, Bool.not_true, Bool.not_false, Bool.true_or, Bool.or_true, Bool.false_or, Bool.or_false, if_true, if_false, Bool.false_eq_true, wPar_ap, par2_ap])
    refine ⟨by omega, ?_⟩
    refine hN _ ⟨b', a' % b', ?_, ?_⟩ ?_
    · rw [Int.fmod_eq_emod_of_nonneg _ (by omega)]; rfl
    · rw [← hg, Nat.gcd_comm b', Nat.gcd_comm a' b', Nat.gcd_rec b' a']
    · show ((a' : Int).fmod b').toNat < ((b' : Int)).toNat
      rw [Int.fmod_eq_emod_of_nonneg _ (by omega)]
      have := Nat.mod_lt a' (show b' > 0 by omega)
      omega
  · rw [decide_eq_false h]
    (try simp only [wC_ap, wSetI_ap, wExpr_ap, wRet_ap, wRetN_ap, wRet0_ap, wIf_ap, wFor_ap, wWhile_ap, wBreak_ap, wCont_ap, wNever_ap, wPick_ap, wCallL_ap, wOp_ap, wIxO_ap, wNoPart_ap, wPart_ap, wSl_ap, wUn_ap, wTest_ap, wChain_ap, wTru_ap, wNotT_ap, wAndT_ap, wOrT_ap, wAnd_ap, wOr_ap, wNot_ap, wIfE_ap, wNil_ap, wCons_ap, wTup_ap, wLst_ap, wCall_ap, wCall0_ap, wCallIo_ap, wYes_ap, wGn_ap, wSr_ap, wEn_ap, wZp_ap, wRg1_ap, wRg2_ap, wLc_ap, wMeth_ap, wMeth0_ap, wNext_ap, wSeq_ap, wAsg_ap, wSet_ap, wV_ap, wPar_ap, par2_ap, wGnil_ap, wGcons_ap, wGtup_ap, sl_z, sl_s, set_z, set_s, wipe_z, wipe_s, rest_z, rest_s, oAdd_i, oAdd_t, oAdd_l, oAdd_s, oSub_i, oMul_i, oMul_t, oII_i, oII0_i, oIx_l, oIx_t, oIx_f, oIsN_n, oNotN_n, oLen_l, oLen_t, oLen_f, oInt_i, oInt_b, oI1_i, oNeg_i, oList_l, oList_t, oTuple_l, oTuple_t, oBs_l, oSl_l, oSl_t, oIsi_ap, oIsi2_ap, tyD_n, tyD_b, tyD_i, tyD_s, tyD_t, tyD_l, tyD_f, truD_n, truD_b, truD_i, truD_t, truD_l, asB_b, asI_i, asL_l, isL_l, isL_t, isL_i, isL_b, isL_n, itD_l, itD_t, itD_f, fApp_ap, fExt_ap, ex_some, onS_ap, ite_t, ite_f, bodyD_ap, ioD_c, start_ap, isi_int_NoneType, isi_int_bool, isi_int_int, isi_int_str, isi_int_tuple, isi_int_list, isi_int_dict, isi_bool_NoneType, isi_bool_bool, isi_bool_int, isi_bool_str, isi_bool_tuple, isi_bool_list, isi_bool_dict, isi_str_NoneType, isi_str_bool, isi_str_int, isi_str_str, isi_str_tuple, isi_str_list, isi_str_dict, isi_list_NoneType, isi_list_bool, isi_list_int, isi_list_str, isi_list_tuple, isi_list_list, isi_list_dict, isi_tuple_NoneType, isi_tuple_bool, isi_tuple_int, isi_tuple_str, isi_tuple_tuple, isi_tuple_list, isi_tuple_dict, isi_dict_NoneType, isi_dict_bool, isi_dict_int, isi_dict_str, isi_dict_tuple, isi_dict_list, isi_dict_dict, List.map_cons, List.map_nil, List.cons_append, List.nil_append, List.length_cons, List.length_nil, List.replicate_succ, List.replicate_zero, Nat.reduceAdd, Nat.reduceSub, Nat.zero_add, true_and, and_true, Bool.not_true, Bool.not_false, Bool.true_or, Bool.or_true, Bool.false_or, Bool.or_false, if_true, if_false, Bool.false_eq_true])
    refine q _ _ ?_
    have : b' = 0 := by omega
    subst this
    rw [Nat.gcd_zero_right] at hg
    rw [hg]
theorem h_common_part : ∀ ds EF PF, f_common_part ds EF PF → ds.length = 1 ∧ bodyD 3 b_common_part ds EF PF := by
  rintro ds EF PF ⟨ns, rfl, p, q⟩
  refine ⟨rfl, ?_⟩
  unfold b_common_part
  (try simp only [wC_ap, wSetI_ap, wExpr_ap, wRet_ap, wRetN_ap, wRet0_ap, wIf_ap, wFor_ap, wWhile_ap, wBreak_ap, wCont_ap, wNever_ap, wPick_ap, wCallL_ap, wOp_ap, wIxO_ap, wNoPart_ap, wPart_ap, wSl_ap, wUn_ap, wTest_ap, wChain_ap, wTru_ap, wNotT_ap, wAndT_ap, wOrT_ap, wAnd_ap, wOr_ap, wNot_ap, wIfE_ap, wNil_ap, wCons_ap, wTup_ap, wLst_ap, wCall_ap, wCall0_ap, wCallIo_ap, wYes_ap, wGn_ap, wSr_ap, wEn_ap, wZp_ap, wRg1_ap, wRg2_ap, wLc_ap, wMeth_ap, wMeth0_ap, wNext_ap, wSeq_ap, wAsg_ap, wSet_ap, wV_ap, wPar_ap, par2_ap, wGnil_ap, wGcons_ap, wGtup_ap, sl_z, sl_s, set_z, set_s, wipe_z, wipe_s, rest_z, rest_s, oAdd_i, oAdd_t, oAdd_l, oAdd_s, oSub_i, oMul_i, oMul_t, oII_i, oII0_i, oIx_l, oIx_t, oIx_f, oIsN_n, oNotN_n, oLen_l, oLen_t, oLen_f, oInt_i, oInt_b, oI1_i, oNeg_i, oList_l, oList_t, oTuple_l, oTuple_t, oBs_l, oSl_l, oSl_t, oIsi_ap, oIsi2_ap, tyD_n, tyD_b, tyD_i, tyD_s, tyD_t, tyD_l, tyD_f, truD_n, truD_b, truD_i, truD_t, truD_l, asB_b, asI_i, asL_l, isL_l, isL_t, isL_i, isL_b, isL_n, itD_l, itD_t, itD_f, fApp_ap, fExt_ap, ex_some, onS_ap, ite_t, ite_f, bodyD_ap, ioD_c, start_ap, isi_int_NoneType, isi_int_bool, isi_int_int, isi_int_str, isi_int_tuple, isi_int_list, isi_int_dict, isi_bool_NoneType, isi_bool_bool, isi_bool_int, isi_bool_str, isi_bool_tuple, isi_bool_list, isi_bool_dict, isi_str_NoneType, isi_str_bool, isi_str_int, isi_str_str, isi_str_tuple, isi_str_list, isi_str_dict, isi_list_NoneType, isi_list_bool, isi_list_int, isi_list_str, isi_list_tuple, isi_list_list, isi_list_dict, isi_tuple_NoneType, isi_tuple_bool, isi_tuple_int, isi_tuple_str, isi_tuple_tuple, isi_tuple_list, isi_tuple_dict, isi_dict_NoneType, isi_dict_bool, isi_dict_int, isi_dict_str, isi_dict_tuple, isi_dict_list, isi_dict_dict, List.map_cons, List.map_nil, List.cons_append, List.nil_append, List.length_cons, List.length_nil, List.replicate_succ, List.replicate_zero, Nat.reduceAdd, Nat.reduceSub, Nat.zero_add, true_and, and_true, Bool.not_true, Bool.not_false, Bool.true_or, Bool.or_true, Bool.false_or, Bool.or_false, if_true, if_false, Bool.false_eq_true, tyD_tI, itD_tI])
  refine for_inv (fun _ ε => ∃ o, ε = [some (tI ns), o, none]) ?_ ?_ ⟨none, rfl⟩
  · rintro pre d r ε e ⟨o, rfl⟩ N hN
    have hd : ∃ z, d = .int z := by
      have : d ∈ ns.map D.int := by rw [e]; simp
      obtain ⟨z, _, hz⟩ := List.mem_map.mp this
      exact ⟨z, hz.symm⟩
    obtain ⟨z, rfl⟩ := hd
    (try simp only [wC_ap, wSetI_ap, wExpr_ap, wRet_ap, wRetN_ap, wRet0_ap, wIf_ap, wFor_ap, wWhile_ap, wBreak_ap, wCont_ap, wNever_ap, wPick_ap, wCallL_ap, wOp_ap, wIxO_ap, wNoPart_ap, wPart_ap, wSl_ap, wUn_ap, wTest_ap, wChain_ap, wTru_ap, wNotT_ap, wAndT_ap, wOrT_ap, wAnd_ap, wOr_ap, wNot_ap, wIfE_ap, wNil_ap, wCons_ap, wTup_ap, wLst_ap, wCall_ap, wCall0_ap, wCallIo_ap, wYes_ap, wGn_ap, wSr_ap, wEn_ap, wZp_ap, wRg1_ap, wRg2_ap, wLc_ap, wMeth_ap, wMeth0_ap, wNext_ap, wSeq_ap, wAsg_ap, wSet_ap, wV_ap, wPar_ap, par2_ap, wGnil_ap, wGcons_ap, wGtup_ap, sl_z, sl_s, set_z, set_s, wipe_z, wipe_s, rest_z, rest_s, oAdd_i, oAdd_t, oAdd_l, oAdd_s, oSub_i, oMul_i, oMul_t, oII_i, oII0_i, oIx_l, oIx_t, oIx_f, oIsN_n, oNotN_n, oLen_l, oLen_t, oLen_f, oInt_i, oInt_b, oI1_i, oNeg_i, oList_l, oList_t, oTuple_l, oTuple_t, oBs_l, oSl_l, oSl_t, oIsi_ap, oIsi2_ap, tyD_n, tyD_b, tyD_i, tyD_s, tyD_t, tyD_l, tyD_f, truD_n, truD_b, truD_i, truD_t, truD_l, asB_b, asI_i, asL_l, isL_l, isL_t, isL_i, isL_b, isL_n, itD_l, itD_t, itD_f, fApp_ap, fExt_ap, ex_some, onS_ap, ite_t, ite_f, bodyD_ap, ioD_c, start_ap, isi_int_NoneType, isi_int_bool, isi_int_int, isi_int_str, isi_int_tuple, isi_int_list, isi_int_dict, isi_bool_NoneType, isi_bool_bool, isi_bool_int, isi_bool_str, isi_bool_tuple, isi_bool_list, isi_bool_dict, isi_str_NoneType, isi_str_bool, isi_str_int, isi_str_str, isi_str_tuple, isi_str_list, isi_str_dict, isi_list_NoneType, isi_list_bool, isi_list_int, isi_list_str, isi_list_tuple, isi_list_list, isi_list_dict, isi_tuple_NoneType, isi_tuple_bool, isi_tuple_int, isi_tuple_str, isi_tuple_tuple, isi_tuple_list, isi_tuple_dict, isi_dict_NoneType, isi_dict_bool, isi_dict_int, isi_dict_str, isi_dict_tuple, isi_dict_list, isi_dict_dict, List.map_cons, List.map_nil, List.cons_append, List.nil_append, List.length_cons, List.length_nil, List.replicate_succ, List.replicate_zero, Nat.reduceAdd, Nat.reduceSub, Nat.zero_add, true_and, and_true, Bool.not_true, Bool.not_false, Bool.true_or, Bool.or_true, Bool.false_or, Bool.or_false, if_true, if_false, Bool.false_eq_true])
    refine ⟨.int z, rfl, rfl, ?_⟩
    rintro r c' rfl
    (try simp only [wC_ap, wSetI_ap, wExpr_ap, wRet_ap, wRetN_ap, wRet0_ap, wIf_ap, wFor_ap, wWhile_ap, wBreak_ap, wCont_ap, wNever_ap, wPick_ap, wCallL_ap, wOp_ap, wIxO_ap, wNoPart_ap, wPart_ap, wSl_ap, wUn_ap, wTest_ap, wChain_ap, wTru_ap, wNotT_ap, wAndT_ap, wOrT_ap, wAnd_ap, wOr_ap, wNot_ap, wIfE_ap, wNil_ap, wCons_ap, wTup_ap, wLst_ap, wCall_ap, wCall0_ap, wCallIo_ap, wYes_ap, wGn_ap, wSr_ap, wEn_ap, wZp_ap, wRg1_ap, wRg2_ap, wLc_ap, wMeth_ap, wMeth0_ap, wNext_ap, wSeq_ap, wAsg_ap, wSet_ap, wV_ap, wPar_ap, par2_ap, wGnil_ap, wGcons_ap, wGtup_ap, sl_z, sl_s, set_z, set_s, wipe_z, wipe_s, rest_z, rest_s, oAdd_i, oAdd_t, oAdd_l, oAdd_s, oSub_i, oMul_i, oMul_t, oII_i, oII0_i, oIx_l, oIx_t, oIx_f, oIsN_n, oNotN_n, oLen_l, oLen_t, oLen_f, oInt_i, oInt_b, oI1_i, oNeg_i, oList_l, oList_t, oTuple_l, oTuple_t, oBs_l, oSl_l, oSl_t, oIsi_ap, oIsi2_ap, tyD_n, tyD_b, tyD_i, tyD_s, tyD_t, tyD_l, tyD_f, truD_n, truD_b, truD_i, truD_t, truD_l, asB_b, asI_i, asL_l, isL_l, isL_t, isL_i, isL_b, isL_n, itD_l, itD_t, itD_f, fApp_ap, fExt_ap, ex_some, onS_ap, ite_t, ite_f, bodyD_ap, ioD_c, start_ap, isi_int_NoneType, isi_int_bool, isi_int_int, isi_int_str, isi_int_tuple, isi_int_list, isi_int_dict, isi_bool_NoneType, isi_bool_bool, isi_bool_int, isi_bool_str, isi_bool_tuple, isi_bool_list, isi_bool_dict, isi_str_NoneType, isi_str_bool, isi_str_int, isi_str_str, isi_str_tuple, isi_str_list, isi_str_dict, isi_list_NoneType, isi_list_bool, isi_list_int, isi_list_str, isi_list_tuple, isi_list_list, isi_list_dict, isi_tuple_NoneType, isi_tuple_bool, isi_tuple_int, isi_tuple_str, isi_tuple_tuple, isi_tuple_list, isi_tuple_dict, isi_dict_NoneType, isi_dict_bool, isi_dict_int, isi_dict_str, isi_dict_tuple, isi_dict_list, isi_dict_dict, List.map_cons, List.map_nil, List.cons_append, List.nil_append, List.length_cons, List.length_nil, List.replicate_succ, List.replicate_zero, Nat.reduceAdd, Nat.reduceSub, Nat.zero_add, true_and, and_true, Bool.not_true, Bool.not_false, Bool.true_or, Bool.or_true, Bool.false_or, Bool.or_false, if_true, if_false, Bool.false_eq_true, isW])
    exact hN _ ⟨_, rfl⟩
  · rintro ε ⟨o, rfl⟩
    (try simp only [wC_ap, wSetI_ap, wExpr_ap, wRet_ap, wRetN_ap, wRet0_ap, wIf_ap, wFor_ap, wWhile_ap, wBreak_ap, wCont_ap, wNever_ap, wPick_ap, wCallL_ap, wOp_ap, wIxO_ap, wNoPart_ap, wPart_ap, wSl_ap, wUn_ap, wTest_ap, wChain_ap, wTru_ap, wNotT_ap, wAndT_ap, wOrT_ap, wAnd_ap, wOr_ap, wNot_ap, wIfE_ap, wNil_ap, wCons_ap, wTup_ap, wLst_ap, wCall_ap, wCall0_ap, wCallIo_ap, wYes_ap, wGn_ap, wSr_ap, wEn_ap, wZp_ap, wRg1_ap, wRg2_ap, wLc_ap, wMeth_ap, wMeth0_ap, wNext_ap, wSeq_ap, wAsg_ap, wSet_ap, wV_ap, wPar_ap, par2_ap, wGnil_ap, wGcons_ap, wGtup_ap, sl_z, sl_s, set_z, set_s, wipe_z, wipe_s, rest_z, rest_s, oAdd_i, oAdd_t, oAdd_l, oAdd_s, oSub_i, oMul_i, oMul_t, oII_i, oII0_i, oIx_l, oIx_t, oIx_f, oIsN_n, oNotN_n, oLen_l, oLen_t, oLen_f, oInt_i, oInt_b, oI1_i, oNeg_i, oList_l, oList_t, oTuple_l, oTuple_t, oBs_l, oSl_l, oSl_t, oIsi_ap, oIsi2_ap, tyD_n, tyD_b, tyD_i, tyD_s, tyD_t, tyD_l, tyD_f, truD_n, truD_b, truD_i, truD_t, truD_l, asB_b, asI_i, asL_l, isL_l, isL_t, isL_i, isL_b, isL_n, itD_l, itD_t, itD_f, fApp_ap, fExt_ap, ex_some, onS_ap, ite_t, ite_f, bodyD_ap, ioD_c, start_ap, isi_int_NoneType, isi_int_bool, isi_int_int, isi_int_str, isi_int_tuple, isi_int_list, isi_int_dict, isi_bool_NoneType, isi_bool_bool, isi_bool_int, isi_bool_str, isi_bool_tuple, isi_bool_list, isi_bool_dict, isi_str_NoneType, isi_str_bool, isi_str_int, isi_str_str, isi_str_tuple, isi_str_list, isi_str_dict, isi_list_NoneType, isi_list_bool, isi_list_int, isi_list_str, isi_list_tuple, isi_list_list, isi_list_dict, isi_tuple_NoneType, isi_tuple_bool, isi_tuple_int, isi_tuple_str, isi_tuple_tuple, isi_tuple_list, isi_tuple_dict, isi_dict_NoneType, isi_dict_bool, isi_dict_int, isi_dict_str, isi_dict_tuple, isi_dict_list, isi_dict_dict, List.map_cons, List.map_nil, List.cons_append, List.nil_append, List.length_cons, List.length_nil, List.replicate_succ, List.replicate_zero, Nat.reduceAdd, Nat.reduceSub, Nat.zero_add, true_and, and_true, Bool.not_true, Bool.not_false, Bool.true_or, Bool.or_true, Bool.false_or, Bool.or_false, if_true, if_false, Bool.false_eq_true, itD_tI])
    refine for_inv (fun pre ε => ∃ o ms, ε = [some (tI ns), o, some (.int (gcdL ms : Nat))] ∧ pre = ms.map D.int) ?_ ?_ ⟨o, [], rfl, rfl⟩
    · rintro pre d r ε e ⟨o, ms, rfl, rfl⟩ N hN
      have hd : ∃ z, d = .int z := by
        have : d ∈ ns.map D.int := by rw [e]; simp
        obtain ⟨z, _, hz⟩ := List.mem_map.mp this
        exact ⟨z, hz.symm⟩
      obtain ⟨z, rfl⟩ := hd
      (try simp only [wC_ap, wSetI_ap, wExpr_ap, wRet_ap, wRetN_ap, wRet0_ap, wIf_ap, wFor_ap, wWhile_ap, wBreak_ap, wCont_ap, wNever_ap, wPick_ap, wCallL_ap, wOp_ap, wIxO_ap, wNoPart_ap, wPart_ap, wSl_ap, wUn_ap, wTest_ap, wChain_ap, wTru_ap, wNotT_ap, wAndT_ap, wOrT_ap, wAnd_ap, wOr_ap, wNot_ap, wIfE_ap, wNil_ap, wCons_ap, wTup_ap, wLst_ap, wCall_ap, wCall0_ap, wCallIo_ap, wYes_ap, wGn_ap, wSr_ap, wEn_ap, wZp_ap, wRg1_ap, wRg2_ap, wLc_ap, wMeth_ap, wMeth0_ap, wNext_ap, wSeq_ap, wAsg_ap, wSet_ap, wV_ap, wPar_ap, par2_ap, wGnil_ap, wGcons_ap, wGtup_ap, sl_z, sl_s, set_z, set_s, wipe_z, wipe_s, rest_z, rest_s, oAdd_i, oAdd_t, oAdd_l, oAdd_s, oSub_i, oMul_i, oMul_t, oII_i, oII0_i, oIx_l, oIx_t, oIx_f, oIsN_n, oNotN_n, oLen_l, oLen_t, oLen_f, oInt_i, oInt_b, oI1_i, oNeg_i, oList_l, oList_t, oTuple_l, oTuple_t, oBs_l, oSl_l, oSl_t, oIsi_ap, oIsi2_ap, tyD_n, tyD_b, tyD_i, tyD_s, tyD_t, tyD_l, tyD_f, truD_n, truD_b, truD_i, truD_t, truD_l, asB_b, asI_i, asL_l, isL_l, isL_t, isL_i, isL_b, isL_n, itD_l, itD_t, itD_f, fApp_ap, fExt_ap, ex_some, onS_ap, ite_t, ite_f, bodyD_ap, ioD_c, start_ap, isi_int_NoneType, isi_int_bool, isi_int_int, isi_int_str, isi_int_tuple, isi_int_list, isi_int_dict, isi_bool_NoneType, isi_bool_bool, isi_bool_int, isi_bool_str, isi_bool_tuple, isi_bool_list, isi_bool_dict, isi_str_NoneType, isi_str_bool, isi_str_int, isi_str_str, isi_str_tuple, isi_str_list, isi_str_dict, isi_list_NoneType, isi_list_bool, isi_list_int, isi_list_str, isi_list_tuple, isi_list_list, isi_list_dict, isi_tuple_NoneType, isi_tuple_bool, isi_tuple_int, isi_tuple_str, isi_tuple_tuple, isi_tuple_list, isi_tuple_dict, isi_dict_NoneType, isi_dict_bool, isi_dict_int, isi_dict_str, isi_dict_tuple, isi_dict_list, isi_dict_dict, List.map_cons, List.map_nil, List.cons_append, List.nil_append, List.length_cons, List.length_nil, List.replicate_succ, List.replicate_zero, Nat.reduceAdd, Nat.reduceSub, Nat.zero_add, true_and, and_true, Bool.not_true, Bool.not_false, Bool.true_or, Bool.or_true, Bool.false_or, Bool.or_false, if_true, if_false, Bool.false_eq_true])
      refine ⟨(gcdL ms, z.natAbs), ?_, trivial, ?_⟩
      · have : (if z < 0 then -z else z) = (z.natAbs : Int) := by split <;> omega
        rw [this]
      rintro r c' rfl
      refine hN _ ⟨some (.int z), ms ++ [z], ?_, by simp⟩
      have : gcdL (ms ++ [z]) = Nat.gcd (gcdL ms) z.natAbs := by
        unfold gcdL
        rw [List.foldl_append]; rfl
      rw [this]
    · rintro ε ⟨o, ms, rfl, e⟩
      (try simp only [wC_ap, wSetI_ap, wExpr_ap, wRet_ap, wRetN_ap, wRet0_ap, wIf_ap, wFor_ap, wWhile_ap, wBreak_ap, wCont_ap, wNever_ap, wPick_ap, wCallL_ap, wOp_ap, wIxO_ap, wNoPart_ap, wPart_ap, wSl_ap, wUn_ap, wTest_ap, wChain_ap, wTru_ap, wNotT_ap, wAndT_ap, wOrT_ap, wAnd_ap, wOr_ap, wNot_ap, wIfE_ap, wNil_ap, wCons_ap, wTup_ap, wLst_ap, wCall_ap, wCall0_ap, wCallIo_ap, wYes_ap, wGn_ap, wSr_ap, wEn_ap, wZp_ap, wRg1_ap, wRg2_ap, wLc_ap, wMeth_ap, wMeth0_ap, wNext_ap, wSeq_ap, wAsg_ap, wSet_ap, wV_ap, wPar_ap, par2_ap, wGnil_ap, wGcons_ap, wGtup_ap, sl_z, sl_s, set_z, set_s, wipe_z, wipe_s, rest_z, rest_s, oAdd_i, oAdd_t, oAdd_l, oAdd_s, oSub_i, oMul_i, oMul_t, oII_i, oII0_i, oIx_l, oIx_t, oIx_f, oIsN_n, oNotN_n, oLen_l, oLen_t, oLen_f, oInt_i, oInt_b, oI1_i, oNeg_i, oList_l, oList_t, oTuple_l, oTuple_t, oBs_l, oSl_l, oSl_t, oIsi_ap, oIsi2_ap, tyD_n, tyD_b, tyD_i, tyD_s, tyD_t, tyD_l, tyD_f, truD_n, truD_b, truD_i, truD_t, truD_l, asB_b, asI_i, asL_l, isL_l, isL_t, isL_i, isL_b, isL_n, itD_l, itD_t, itD_f, fApp_ap, fExt_ap, ex_some, onS_ap, ite_t, ite_f, bodyD_ap, ioD_c, start_ap, isi_int_NoneType, isi_int_bool, isi_int_int, isi_int_str, isi_int_tuple, isi_int_list, isi_int_dict, isi_bool_NoneType, isi_bool_bool, isi_bool_int, isi_bool_str, isi_bool_tuple, isi_bool_list, isi_bool_dict, isi_str_NoneType, isi_str_bool, isi_str_int, isi_str_str, isi_str_tuple, isi_str_list, isi_str_dict, isi_list_NoneType, isi_list_bool, isi_list_int, isi_list_str, isi_list_tuple, isi_list_list, isi_list_dict, isi_tuple_NoneType, isi_tuple_bool, isi_tuple_int, isi_tuple_str, isi_tuple_tuple, isi_tuple_list, isi_tuple_dict, isi_dict_NoneType, isi_dict_bool, isi_dict_int, isi_dict_str, isi_dict_tuple, isi_dict_list, isi_dict_dict, List.map_cons, List.map_nil, List.cons_append, List.nil_append, List.length_cons, List.length_nil, List.replicate_succ, List.replicate_zero, Nat.reduceAdd, Nat.reduceSub, Nat.zero_add, true_and, and_true, Bool.not_true, Bool.not_false, Bool.true_or, Bool.or_true, Bool.false_or, Bool.or_false, if_true, if_false, Bool.false_eq_true])
      have : ms = ns := by
        have := congrArg (List.map fun d => match d with | D.int z => z | _ => 0) e
        simpa [List.map_map, Function.comp_def] using this.symm
      subst this
      exact q _ _ rfl
theorem h_are_wholes : ∀ ds EF PF, f_are_wholes ds EF PF → ds.length = 1 ∧ bodyD 2 b_are_wholes ds EF PF := by
  rintro ds EF PF ⟨ns, rfl, p, q⟩
  refine ⟨rfl, ?_⟩
  unfold b_are_wholes
  (try simp only [wC_ap, wSetI_ap, wExpr_ap, wRet_ap, wRetN_ap, wRet0_ap, wIf_ap, wFor_ap, wWhile_ap, wBreak_ap, wCont_ap, wNever_ap, wPick_ap, wCallL_ap, wOp_ap, wIxO_ap, wNoPart_ap, wPart_ap, wSl_ap, wUn_ap, wTest_ap, wChain_ap, wTru_ap, wNotT_ap, wAndT_ap, wOrT_ap, wAnd_ap, wOr_ap, wNot_ap, wIfE_ap, wNil_ap, wCons_ap, wTup_ap, wLst_ap, wCall_ap, wCall0_ap, wCallIo_ap, wYes_ap, wGn_ap, wSr_ap, wEn_ap, wZp_ap, wRg1_ap, wRg2_ap, wLc_ap, wMeth_ap, wMeth0_ap, wNext_ap, wSeq_ap, wAsg_ap, wSet_ap, wV_ap, wPar_ap, par2_ap, wGnil_ap, wGcons_ap, wGtup_ap, sl_z, sl_s, set_z, set_s, wipe_z, wipe_s, rest_z, rest_s, oAdd_i, oAdd_t, oAdd_l, oAdd_s, oSub_i, oMul_i, oMul_t, oII_i, oII0_i, oIx_l, oIx_t, oIx_f, oIsN_n, oNotN_n, oLen_l, oLen_t, oLen_f, oInt_i, oInt_b, oI1_i, oNeg_i, oList_l, oList_t, oTuple_l, oTuple_t, oBs_l, oSl_l, oSl_t, oIsi_ap, oIsi2_ap, tyD_n, tyD_b, tyD_i, tyD_s, tyD_t, tyD_l, tyD_f, truD_n, truD_b, truD_i, truD_t, truD_l, asB_b, asI_i, asL_l, isL_l, isL_t, isL_i, isL_b, isL_n, itD_l, itD_t, itD_f, fApp_ap, fExt_ap, ex_some, onS_ap, ite_t, ite_f, bodyD_ap, ioD_c, start_ap, isi_int_NoneType, isi_int_bool, isi_int_int, isi_int_str, isi_int_tuple, isi_int_list, isi_int_dict, isi_bool_NoneType, isi_bool_bool, isi_bool_int, isi_bool_str, isi_bool_tuple, isi_bool_list, isi_bool_dict, isi_str_NoneType, isi_str_bool, isi_str_int, isi_str_str, isi_str_tuple, isi_str_list, isi_str_dict, isi_list_NoneType, isi_list_bool, isi_list_int, isi_list_str, isi_list_tuple, isi_list_list, isi_list_dict, isi_tuple_NoneType, isi_tuple_bool, isi_tuple_int, isi_tuple_str, isi_tuple_tuple, isi_tuple_list, isi_tuple_dict, isi_dict_NoneType, isi_dict_bool, isi_dict_int, isi_dict_str, isi_dict_tuple, isi_dict_list, isi_dict_dict, List.map_cons, List.map_nil, List.cons_append, List.nil_append, List.length_cons, List.length_nil, List.replicate_succ, List.replicate_zero, Nat.reduceAdd, Nat.reduceSub, Nat.zero_add, true_and, and_true, Bool.not_true, Bool.not_false, Bool.true_or, Bool.or_true, Bool.false_or, Bool.or_false, if_true, if_false, Bool.false_eq_true, tyD_tI, itD_tI])
  refine ⟨?_, lc_map (fun _ => .bl true) ?_ ?_⟩
  · rw [List.length_map]; exact small_z (Nat.le_trans p (by decide))
  · intro d hd K1 h1
    obtain ⟨z, _, rfl⟩ := List.mem_map.mp hd
    (try simp only [wC_ap, wSetI_ap, wExpr_ap, wRet_ap, wRetN_ap, wRet0_ap, wIf_ap, wFor_ap, wWhile_ap, wBreak_ap, wCont_ap, wNever_ap, wPick_ap, wCallL_ap, wOp_ap, wIxO_ap, wNoPart_ap, wPart_ap, wSl_ap, wUn_ap, wTest_ap, wChain_ap, wTru_ap, wNotT_ap, wAndT_ap, wOrT_ap, wAnd_ap, wOr_ap, wNot_ap, wIfE_ap, wNil_ap, wCons_ap, wTup_ap, wLst_ap, wCall_ap, wCall0_ap, wCallIo_ap, wYes_ap, wGn_ap, wSr_ap, wEn_ap, wZp_ap, wRg1_ap, wRg2_ap, wLc_ap, wMeth_ap, wMeth0_ap, wNext_ap, wSeq_ap, wAsg_ap, wSet_ap, wV_ap, wPar_ap, par2_ap, wGnil_ap, wGcons_ap, wGtup_ap, sl_z, sl_s, set_z, set_s, wipe_z, wipe_s, rest_z, rest_s, oAdd_i, oAdd_t, oAdd_l, oAdd_s, oSub_i, oMul_i, oMul_t, oII_i, oII0_i, oIx_l, oIx_t, oIx_f, oIsN_n, oNotN_n, oLen_l, oLen_t, oLen_f, oInt_i, oInt_b, oI1_i, oNeg_i, oList_l, oList_t, oTuple_l, oTuple_t, oBs_l, oSl_l, oSl_t, oIsi_ap, oIsi2_ap, tyD_n, tyD_b, tyD_i, tyD_s, tyD_t, tyD_l, tyD_f, truD_n, truD_b, truD_i, truD_t, truD_l, asB_b, asI_i, asL_l, isL_l, isL_t, isL_i, isL_b, isL_n, itD_l, itD_t, itD_f, fApp_ap, fExt_ap, ex_some, onS_ap, ite_t, ite_f, bodyD_ap, ioD_c, start_ap, isi_int_NoneType, isi_int_bool, isi_int_int, isi_int_str, isi_int_tuple, isi_int_list, isi_int_dict, isi_bool_NoneType, isi_bool_bool, isi_bool_int, isi_bool_str, isi_bool_tuple, isi_bool_list, isi_bool_dict, isi_str_NoneType, isi_str_bool, isi_str_int, isi_str_str, isi_str_tuple, isi_str_list, isi_str_dict, isi_list_NoneType, isi_list_bool, isi_list_int, isi_list_str, isi_list_tuple, isi_list_list, isi_list_dict, isi_tuple_NoneType, isi_tuple_bool, isi_tuple_int, isi_tuple_str, isi_tuple_tuple, isi_tuple_list, isi_tuple_dict, isi_dict_NoneType, isi_dict_bool, isi_dict_int, isi_dict_str, isi_dict_tuple, isi_dict_list, isi_dict_dict, List.map_cons, List.map_nil, List.cons_append, List.nil_append, List.length_cons, List.length_nil, List.replicate_succ, List.replicate_zero, Nat.reduceAdd, Nat.reduceSub, Nat.zero_add, true_and, and_true, Bool.not_true, Bool.not_false, Bool.true_or, Bool.or_true, Bool.false_or, Bool.or_false, if_true, if_false, Bool.false_eq_true])
    refine ⟨.int z, rfl, rfl, ?_⟩
    rintro r c' rfl
    exact h1 _ rfl
  · (try simp only [wC_ap, wSetI_ap, wExpr_ap, wRet_ap, wRetN_ap, wRet0_ap, wIf_ap, wFor_ap, wWhile_ap, wBreak_ap, wCont_ap, wNever_ap, wPick_ap, wCallL_ap, wOp_ap, wIxO_ap, wNoPart_ap, wPart_ap, wSl_ap, wUn_ap, wTest_ap, wChain_ap, wTru_ap, wNotT_ap, wAndT_ap, wOrT_ap, wAnd_ap, wOr_ap, wNot_ap, wIfE_ap, wNil_ap, wCons_ap, wTup_ap, wLst_ap, wCall_ap, wCall0_ap, wCallIo_ap, wYes_ap, wGn_ap, wSr_ap, wEn_ap, wZp_ap, wRg1_ap, wRg2_ap, wLc_ap, wMeth_ap, wMeth0_ap, wNext_ap, wSeq_ap, wAsg_ap, wSet_ap, wV_ap, wPar_ap, par2_ap, wGnil_ap, wGcons_ap, wGtup_ap, sl_z, sl_s, set_z, set_s, wipe_z, wipe_s, rest_z, rest_s, oAdd_i, oAdd_t, oAdd_l, oAdd_s, oSub_i, oMul_i, oMul_t, oII_i, oII0_i, oIx_l, oIx_t, oIx_f, oIsN_n, oNotN_n, oLen_l, oLen_t, oLen_f, oInt_i, oInt_b, oI1_i, oNeg_i, oList_l, oList_t, oTuple_l, oTuple_t, oBs_l, oSl_l, oSl_t, oIsi_ap, oIsi2_ap, tyD_n, tyD_b, tyD_i, tyD_s, tyD_t, tyD_l, tyD_f, truD_n, truD_b, truD_i, truD_t, truD_l, asB_b, asI_i, asL_l, isL_l, isL_t, isL_i, isL_b, isL_n, itD_l, itD_t, itD_f, fApp_ap, fExt_ap, ex_some, onS_ap, ite_t, ite_f, bodyD_ap, ioD_c, start_ap, isi_int_NoneType, isi_int_bool, isi_int_int, isi_int_str, isi_int_tuple, isi_int_list, isi_int_dict, isi_bool_NoneType, isi_bool_bool, isi_bool_int, isi_bool_str, isi_bool_tuple, isi_bool_list, isi_bool_dict, isi_str_NoneType, isi_str_bool, isi_str_int, isi_str_str, isi_str_tuple, isi_str_list, isi_str_dict, isi_list_NoneType, isi_list_bool, isi_list_int, isi_list_str, isi_list_tuple, isi_list_list, isi_list_dict, isi_tuple_NoneType, isi_tuple_bool, isi_tuple_int, isi_tuple_str, isi_tuple_tuple, isi_tuple_list, isi_tuple_dict, isi_dict_NoneType, isi_dict_bool, isi_dict_int, isi_dict_str, isi_dict_tuple, isi_dict_list, isi_dict_dict, List.map_cons, List.map_nil, List.cons_append, List.nil_append, List.length_cons, List.length_nil, List.replicate_succ, List.replicate_zero, Nat.reduceAdd, Nat.reduceSub, Nat.zero_add, true_and, and_true, Bool.not_true, Bool.not_false, Bool.true_or, Bool.or_true, Bool.false_or, Bool.or_false, if_true, if_false, Bool.false_eq_true])
    have e : (ns.map D.int).map (fun _ => D.bl true) = (ns.map fun _ => true).map D.bl := by simp
    rw [e, asBs_map]
    refine q _ _ ?_
    simp
theorem h_need_sum : ∀ ds EF PF, f_need_sum ds EF PF → ds.length = 1 ∧ bodyD 1 b_need_sum ds EF PF := by
  rintro ds EF PF ⟨ns, rfl, ⟨p1, p2⟩, q⟩
  refine ⟨rfl, ?_⟩
  unfold b_need_sum
  (try simp only [wC_ap, wSetI_ap, wExpr_ap, wRet_ap, wRetN_ap, wRet0_ap, wIf_ap, wFor_ap, wWhile_ap, wBreak_ap, wCont_ap, wNever_ap, wPick_ap, wCallL_ap, wOp_ap, wIxO_ap, wNoPart_ap, wPart_ap, wSl_ap, wUn_ap, wTest_ap, wChain_ap, wTru_ap, wNotT_ap, wAndT_ap, wOrT_ap, wAnd_ap, wOr_ap, wNot_ap, wIfE_ap, wNil_ap, wCons_ap, wTup_ap, wLst_ap, wCall_ap, wCall0_ap, wCallIo_ap, wYes_ap, wGn_ap, wSr_ap, wEn_ap, wZp_ap, wRg1_ap, wRg2_ap, wLc_ap, wMeth_ap, wMeth0_ap, wNext_ap, wSeq_ap, wAsg_ap, wSet_ap, wV_ap, wPar_ap, par2_ap, wGnil_ap, wGcons_ap, wGtup_ap, sl_z, sl_s, set_z, set_s, wipe_z, wipe_s, rest_z, rest_s, oAdd_i, oAdd_t, oAdd_l, oAdd_s, oSub_i, oMul_i, oMul_t, oII_i, oII0_i, oIx_l, oIx_t, oIx_f, oIsN_n, oNotN_n, oLen_l, oLen_t, oLen_f, oInt_i, oInt_b, oI1_i, oNeg_i, oList_l, oList_t, oTuple_l, oTuple_t, oBs_l, oSl_l, oSl_t, oIsi_ap, oIsi2_ap, tyD_n, tyD_b, tyD_i, tyD_s, tyD_t, tyD_l, tyD_f, truD_n, truD_b, truD_i, truD_t, truD_l, asB_b, asI_i, asL_l, isL_l, isL_t, isL_i, isL_b, isL_n, itD_l, itD_t, itD_f, fApp_ap, fExt_ap, ex_some, onS_ap, ite_t, ite_f, bodyD_ap, ioD_c, start_ap, isi_int_NoneType, isi_int_bool, isi_int_int, isi_int_str, isi_int_tuple, isi_int_list, isi_int_dict, isi_bool_NoneType, isi_bool_bool, isi_bool_int, isi_bool_str, isi_bool_tuple, isi_bool_list, isi_bool_dict, isi_str_NoneType, isi_str_bool, isi_str_int, isi_str_str, isi_str_tuple, isi_str_list, isi_str_dict, isi_list_NoneType, isi_list_bool, isi_list_int, isi_list_str, isi_list_tuple, isi_list_list, isi_list_dict, isi_tuple_NoneType, isi_tuple_bool, isi_tuple_int, isi_tuple_str, isi_tuple_tuple, isi_tuple_list, isi_tuple_dict, isi_dict_NoneType, isi_dict_bool, isi_dict_int, isi_dict_str, isi_dict_tuple, isi_dict_list, isi_dict_dict, List.map_cons, List.map_nil, List.cons_append, List.nil_append, List.length_cons, List.length_nil, List.replicate_succ, List.replicate_zero, Nat.reduceAdd, Nat.reduceSub, Nat.zero_add, true_and, and_true, Bool.not_true, Bool.not_false, Bool.true_or, Bool.or_true, Bool.false_or, Bool.or_false, if_true, if_false, Bool.false_eq_true])
  refine ⟨ns, rfl, (by show ns.length ≤ 1000000; omega), ?_⟩
  rintro r c' rfl
  have h1 : decide ((1 : Int) ≤ (ns.length : Int)) = true := decide_eq_true (by omega)
  have h2 : decide ((ns.length : Int) ≤ 11) = true := decide_eq_true (by omega)
  (try simp only [wC_ap, wSetI_ap, wExpr_ap, wRet_ap, wRetN_ap, wRet0_ap, wIf_ap, wFor_ap, wWhile_ap, wBreak_ap, wCont_ap, wNever_ap, wPick_ap, wCallL_ap, wOp_ap, wIxO_ap, wNoPart_ap, wPart_ap, wSl_ap, wUn_ap, wTest_ap, wChain_ap, wTru_ap, wNotT_ap, wAndT_ap, wOrT_ap, wAnd_ap, wOr_ap, wNot_ap, wIfE_ap, wNil_ap, wCons_ap, wTup_ap, wLst_ap, wCall_ap, wCall0_ap, wCallIo_ap, wYes_ap, wGn_ap, wSr_ap, wEn_ap, wZp_ap, wRg1_ap, wRg2_ap, wLc_ap, wMeth_ap, wMeth0_ap, wNext_ap, wSeq_ap, wAsg_ap, wSet_ap, wV_ap, wPar_ap, par2_ap, wGnil_ap, wGcons_ap, wGtup_ap, sl_z, sl_s, set_z, set_s, wipe_z, wipe_s, rest_z, rest_s, oAdd_i, oAdd_t, oAdd_l, oAdd_s, oSub_i, oMul_i, oMul_t, oII_i, oII0_i, oIx_l, oIx_t, oIx_f, oIsN_n, oNotN_n, oLen_l, oLen_t, oLen_f, oInt_i, oInt_b, oI1_i, oNeg_i, oList_l, oList_t, oTuple_l, oTuple_t, oBs_l, oSl_l, oSl_t, oIsi_ap, oIsi2_ap, tyD_n, tyD_b, tyD_i, tyD_s, tyD_t, tyD_l, tyD_f, truD_n, truD_b, truD_i, truD_t, truD_l, asB_b, asI_i, asL_l, isL_l, isL_t, isL_i, isL_b, isL_n, itD_l, itD_t, itD_f, fApp_ap, fExt_ap, ex_some, onS_ap, ite_t, ite_f, bodyD_ap, ioD_c, start_ap, isi_int_NoneType, isi_int_bool, isi_int_int, isi_int_str, isi_int_tuple, isi_int_list, isi_int_dict, isi_bool_NoneType, isi_bool_bool, isi_bool_int, isi_bool_str, isi_bool_tuple, isi_bool_list, isi_bool_dict, isi_str_NoneType, isi_str_bool, isi_str_int, isi_str_str, isi_str_tuple, isi_str_list, isi_str_dict, isi_list_NoneType, isi_list_bool, isi_list_int, isi_list_str, isi_list_tuple, isi_list_list, isi_list_dict, isi_tuple_NoneType, isi_tuple_bool, isi_tuple_int, isi_tuple_str, isi_tuple_tuple, isi_tuple_list, isi_tuple_dict, isi_dict_NoneType, isi_dict_bool, isi_dict_int, isi_dict_str, isi_dict_tuple, isi_dict_list, isi_dict_dict, List.map_cons, List.map_nil, List.cons_append, List.nil_append, List.length_cons, List.length_nil, List.replicate_succ, List.replicate_zero, Nat.reduceAdd, Nat.reduceSub, Nat.zero_add, true_and, and_true, Bool.not_true, Bool.not_false, Bool.true_or, Bool.or_true, Bool.false_or, Bool.or_false, if_true, if_false, Bool.false_eq_true, oLen_tI, h1, h2])
  exact q _ _ rfl
theorem h_plus_sums : ∀ ds EF PF, f_plus_sums ds EF PF → ds.length = 2 ∧ bodyD 4 b_plus_sums ds EF PF := by
  rintro ds EF PF ⟨⟨xs, ys⟩, rfl, ⟨p1, p2⟩, q⟩
  refine ⟨rfl, ?_⟩
  unfold b_plus_sums
  (try simp only [wC_ap, wSetI_ap, wExpr_ap, wRet_ap, wRetN_ap, wRet0_ap, wIf_ap, wFor_ap, wWhile_ap, wBreak_ap, wCont_ap, wNever_ap, wPick_ap, wCallL_ap, wOp_ap, wIxO_ap, wNoPart_ap, wPart_ap, wSl_ap, wUn_ap, wTest_ap, wChain_ap, wTru_ap, wNotT_ap, wAndT_ap, wOrT_ap, wAnd_ap, wOr_ap, wNot_ap, wIfE_ap, wNil_ap, wCons_ap, wTup_ap, wLst_ap, wCall_ap, wCall0_ap, wCallIo_ap, wYes_ap, wGn_ap, wSr_ap, wEn_ap, wZp_ap, wRg1_ap, wRg2_ap, wLc_ap, wMeth_ap, wMeth0_ap, wNext_ap, wSeq_ap, wAsg_ap, wSet_ap, wV_ap, wPar_ap, par2_ap, wGnil_ap, wGcons_ap, wGtup_ap, sl_z, sl_s, set_z, set_s, wipe_z, wipe_s, rest_z, rest_s, oAdd_i, oAdd_t, oAdd_l, oAdd_s, oSub_i, oMul_i, oMul_t, oII_i, oII0_i, oIx_l, oIx_t, oIx_f, oIsN_n, oNotN_n, oLen_l, oLen_t, oLen_f, oInt_i, oInt_b, oI1_i, oNeg_i, oList_l, oList_t, oTuple_l, oTuple_t, oBs_l, oSl_l, oSl_t, oIsi_ap, oIsi2_ap, tyD_n, tyD_b, tyD_i, tyD_s, tyD_t, tyD_l, tyD_f, truD_n, truD_b, truD_i, truD_t, truD_l, asB_b, asI_i, asL_l, isL_l, isL_t, isL_i, isL_b, isL_n, itD_l, itD_t, itD_f, fApp_ap, fExt_ap, ex_some, onS_ap, ite_t, ite_f, bodyD_ap, ioD_c, start_ap, isi_int_NoneType, isi_int_bool, isi_int_int, isi_int_str, isi_int_tuple, isi_int_list, isi_int_dict, isi_bool_NoneType, isi_bool_bool, isi_bool_int, isi_bool_str, isi_bool_tuple, isi_bool_list, isi_bool_dict, isi_str_NoneType, isi_str_bool, isi_str_int, isi_str_str, isi_str_tuple, isi_str_list, isi_str_dict, isi_list_NoneType, isi_list_bool, isi_list_int, isi_list_str, isi_list_tuple, isi_list_list, isi_list_dict, isi_tuple_NoneType, isi_tuple_bool, isi_tuple_int, isi_tuple_str, isi_tuple_tuple, isi_tuple_list, isi_tuple_dict, isi_dict_NoneType, isi_dict_bool, isi_dict_int, isi_dict_str, isi_dict_tuple, isi_dict_list, isi_dict_dict, List.map_cons, List.map_nil, List.cons_append, List.nil_append, List.length_cons, List.length_nil, List.replicate_succ, List.replicate_zero, Nat.reduceAdd, Nat.reduceSub, Nat.zero_add, true_and, and_true, Bool.not_true, Bool.not_false, Bool.true_or, Bool.or_true, Bool.false_or, Bool.or_false, if_true, if_false, Bool.false_eq_true])
  refine ⟨xs, rfl, p1, ?_⟩
  rintro r c' rfl
  refine ⟨ys, rfl, (by have := p1; unfold okS at this ⊢; have e : xs.length = ys.length := p2; rw [← e]; exact this), ?_⟩
  rintro r c' rfl
  (try simp only [wC_ap, wSetI_ap, wExpr_ap, wRet_ap, wRetN_ap, wRet0_ap, wIf_ap, wFor_ap, wWhile_ap, wBreak_ap, wCont_ap, wNever_ap, wPick_ap, wCallL_ap, wOp_ap, wIxO_ap, wNoPart_ap, wPart_ap, wSl_ap, wUn_ap, wTest_ap, wChain_ap, wTru_ap, wNotT_ap, wAndT_ap, wOrT_ap, wAnd_ap, wOr_ap, wNot_ap, wIfE_ap, wNil_ap, wCons_ap, wTup_ap, wLst_ap, wCall_ap, wCall0_ap, wCallIo_ap, wYes_ap, wGn_ap, wSr_ap, wEn_ap, wZp_ap, wRg1_ap, wRg2_ap, wLc_ap, wMeth_ap, wMeth0_ap, wNext_ap, wSeq_ap, wAsg_ap, wSet_ap, wV_ap, wPar_ap, par2_ap, wGnil_ap, wGcons_ap, wGtup_ap, sl_z, sl_s, set_z, set_s, wipe_z, wipe_s, rest_z, rest_s, oAdd_i, oAdd_t, oAdd_l, oAdd_s, oSub_i, oMul_i, oMul_t, oII_i, oII0_i, oIx_l, oIx_t, oIx_f, oIsN_n, oNotN_n, oLen_l, oLen_t, oLen_f, oInt_i, oInt_b, oI1_i, oNeg_i, oList_l, oList_t, oTuple_l, oTuple_t, oBs_l, oSl_l, oSl_t, oIsi_ap, oIsi2_ap, tyD_n, tyD_b, tyD_i, tyD_s, tyD_t, tyD_l, tyD_f, truD_n, truD_b, truD_i, truD_t, truD_l, asB_b, asI_i, asL_l, isL_l, isL_t, isL_i, isL_b, isL_n, itD_l, itD_t, itD_f, fApp_ap, fExt_ap, ex_some, onS_ap, ite_t, ite_f, bodyD_ap, ioD_c, start_ap, isi_int_NoneType, isi_int_bool, isi_int_int, isi_int_str, isi_int_tuple, isi_int_list, isi_int_dict, isi_bool_NoneType, isi_bool_bool, isi_bool_int, isi_bool_str, isi_bool_tuple, isi_bool_list, isi_bool_dict, isi_str_NoneType, isi_str_bool, isi_str_int, isi_str_str, isi_str_tuple, isi_str_list, isi_str_dict, isi_list_NoneType, isi_list_bool, isi_list_int, isi_list_str, isi_list_tuple, isi_list_list, isi_list_dict, isi_tuple_NoneType, isi_tuple_bool, isi_tuple_int, isi_tuple_str, isi_tuple_tuple, isi_tuple_list, isi_tuple_dict, isi_dict_NoneType, isi_dict_bool, isi_dict_int, isi_dict_str, isi_dict_tuple, isi_dict_list, isi_dict_dict, List.map_cons, List.map_nil, List.cons_append, List.nil_append, List.length_cons, List.length_nil, List.replicate_succ, List.replicate_zero, Nat.reduceAdd, Nat.reduceSub, Nat.zero_add, true_and, and_true, Bool.not_true, Bool.not_false, Bool.true_or, Bool.or_true, Bool.false_or, Bool.or_false, if_true, if_false, Bool.false_eq_true, oLen_tI])
  refine ⟨rfl, rfl, ?_⟩
  have e : eqD (.int (xs.length : Int)) (.int (ys.length : Int)) = true := by
    have e : xs.length = ys.length := p2
    rw [e]; exact eqD_int_self _
  (try simp only [wC_ap, wSetI_ap, wExpr_ap, wRet_ap, wRetN_ap, wRet0_ap, wIf_ap, wFor_ap, wWhile_ap, wBreak_ap, wCont_ap, wNever_ap, wPick_ap, wCallL_ap, wOp_ap, wIxO_ap, wNoPart_ap, wPart_ap, wSl_ap, wUn_ap, wTest_ap, wChain_ap, wTru_ap, wNotT_ap, wAndT_ap, wOrT_ap, wAnd_ap, wOr_ap, wNot_ap, wIfE_ap, wNil_ap, wCons_ap, wTup_ap, wLst_ap, wCall_ap, wCall0_ap, wCallIo_ap, wYes_ap, wGn_ap, wSr_ap, wEn_ap, wZp_ap, wRg1_ap, wRg2_ap, wLc_ap, wMeth_ap, wMeth0_ap, wNext_ap, wSeq_ap, wAsg_ap, wSet_ap, wV_ap, wPar_ap, par2_ap, wGnil_ap, wGcons_ap, wGtup_ap, sl_z, sl_s, set_z, set_s, wipe_z, wipe_s, rest_z, rest_s, oAdd_i, oAdd_t, oAdd_l, oAdd_s, oSub_i, oMul_i, oMul_t, oII_i, oII0_i, oIx_l, oIx_t, oIx_f, oIsN_n, oNotN_n, oLen_l, oLen_t, oLen_f, oInt_i, oInt_b, oI1_i, oNeg_i, oList_l, oList_t, oTuple_l, oTuple_t, oBs_l, oSl_l, oSl_t, oIsi_ap, oIsi2_ap, tyD_n, tyD_b, tyD_i, tyD_s, tyD_t, tyD_l, tyD_f, truD_n, truD_b, truD_i, truD_t, truD_l, asB_b, asI_i, asL_l, isL_l, isL_t, isL_i, isL_b, isL_n, itD_l, itD_t, itD_f, fApp_ap, fExt_ap, ex_some, onS_ap, ite_t, ite_f, bodyD_ap, ioD_c, start_ap, isi_int_NoneType, isi_int_bool, isi_int_int, isi_int_str, isi_int_tuple, isi_int_list, isi_int_dict, isi_bool_NoneType, isi_bool_bool, isi_bool_int, isi_bool_str, isi_bool_tuple, isi_bool_list, isi_bool_dict, isi_str_NoneType, isi_str_bool, isi_str_int, isi_str_str, isi_str_tuple, isi_str_list, isi_str_dict, isi_list_NoneType, isi_list_bool, isi_list_int, isi_list_str, isi_list_tuple, isi_list_list, isi_list_dict, isi_tuple_NoneType, isi_tuple_bool, isi_tuple_int, isi_tuple_str, isi_tuple_tuple, isi_tuple_list, isi_tuple_dict, isi_dict_NoneType, isi_dict_bool, isi_dict_int, isi_dict_str, isi_dict_tuple, isi_dict_list, isi_dict_dict, List.map_cons, List.map_nil, List.cons_append, List.nil_append, List.length_cons, List.length_nil, List.replicate_succ, List.replicate_zero, Nat.reduceAdd, Nat.reduceSub, Nat.zero_add, true_and, and_true, Bool.not_true, Bool.not_false, Bool.true_or, Bool.or_true, Bool.false_or, Bool.or_false, if_true, if_false, Bool.false_eq_true, e, itD_tI])
  refine ⟨?_, lc_map (fun d => match d with | .tup [.int a, .int b] => .int (a + b) | _ => .non) ?_ ?_⟩
  · rw [zpD_len, List.length_map]
    have : xs.length ≤ 11 := p1.2
    exact small_z (by omega)
  · intro d hd K1 h1
    obtain ⟨a, b, rfl⟩ := mem_zp hd
    (try simp only [wC_ap, wSetI_ap, wExpr_ap, wRet_ap, wRetN_ap, wRet0_ap, wIf_ap, wFor_ap, wWhile_ap, wBreak_ap, wCont_ap, wNever_ap, wPick_ap, wCallL_ap, wOp_ap, wIxO_ap, wNoPart_ap, wPart_ap, wSl_ap, wUn_ap, wTest_ap, wChain_ap, wTru_ap, wNotT_ap, wAndT_ap, wOrT_ap, wAnd_ap, wOr_ap, wNot_ap, wIfE_ap, wNil_ap, wCons_ap, wTup_ap, wLst_ap, wCall_ap, wCall0_ap, wCallIo_ap, wYes_ap, wGn_ap, wSr_ap, wEn_ap, wZp_ap, wRg1_ap, wRg2_ap, wLc_ap, wMeth_ap, wMeth0_ap, wNext_ap, wSeq_ap, wAsg_ap, wSet_ap, wV_ap, wPar_ap, par2_ap, wGnil_ap, wGcons_ap, wGtup_ap, sl_z, sl_s, set_z, set_s, wipe_z, wipe_s, rest_z, rest_s, oAdd_i, oAdd_t, oAdd_l, oAdd_s, oSub_i, oMul_i, oMul_t, oII_i, oII0_i, oIx_l, oIx_t, oIx_f, oIsN_n, oNotN_n, oLen_l, oLen_t, oLen_f, oInt_i, oInt_b, oI1_i, oNeg_i, oList_l, oList_t, oTuple_l, oTuple_t, oBs_l, oSl_l, oSl_t, oIsi_ap, oIsi2_ap, tyD_n, tyD_b, tyD_i, tyD_s, tyD_t, tyD_l, tyD_f, truD_n, truD_b, truD_i, truD_t, truD_l, asB_b, asI_i, asL_l, isL_l, isL_t, isL_i, isL_b, isL_n, itD_l, itD_t, itD_f, fApp_ap, fExt_ap, ex_some, onS_ap, ite_t, ite_f, bodyD_ap, ioD_c, start_ap, isi_int_NoneType, isi_int_bool, isi_int_int, isi_int_str, isi_int_tuple, isi_int_list, isi_int_dict, isi_bool_NoneType, isi_bool_bool, isi_bool_int, isi_bool_str, isi_bool_tuple, isi_bool_list, isi_bool_dict, isi_str_NoneType, isi_str_bool, isi_str_int, isi_str_str, isi_str_tuple, isi_str_list, isi_str_dict, isi_list_NoneType, isi_list_bool, isi_list_int, isi_list_str, isi_list_tuple, isi_list_list, isi_list_dict, isi_tuple_NoneType, isi_tuple_bool, isi_tuple_int, isi_tuple_str, isi_tuple_tuple, isi_tuple_list, isi_tuple_dict, isi_dict_NoneType, isi_dict_bool, isi_dict_int, isi_dict_str, isi_dict_tuple, isi_dict_list, isi_dict_dict, List.map_cons, List.map_nil, List.cons_append, List.nil_append, List.length_cons, List.length_nil, List.replicate_succ, List.replicate_zero, Nat.reduceAdd, Nat.reduceSub, Nat.zero_add, true_and, and_true, Bool.not_true, Bool.not_false, Bool.true_or, Bool.or_true, Bool.false_or, Bool.or_false, if_true, if_false, Bool.false_eq_true])
    exact h1 _ rfl
  · (try simp only [wC_ap, wSetI_ap, wExpr_ap, wRet_ap, wRetN_ap, wRet0_ap, wIf_ap, wFor_ap, wWhile_ap, wBreak_ap, wCont_ap, wNever_ap, wPick_ap, wCallL_ap, wOp_ap, wIxO_ap, wNoPart_ap, wPart_ap, wSl_ap, wUn_ap, wTest_ap, wChain_ap, wTru_ap, wNotT_ap, wAndT_ap, wOrT_ap, wAnd_ap, wOr_ap, wNot_ap, wIfE_ap, wNil_ap, wCons_ap, wTup_ap, wLst_ap, wCall_ap, wCall0_ap, wCallIo_ap, wYes_ap, wGn_ap, wSr_ap, wEn_ap, wZp_ap, wRg1_ap, wRg2_ap, wLc_ap, wMeth_ap, wMeth0_ap, wNext_ap, wSeq_ap, wAsg_ap, wSet_ap, wV_ap, wPar_ap, par2_ap, wGnil_ap, wGcons_ap, wGtup_ap, sl_z, sl_s, set_z, set_s, wipe_z, wipe_s, rest_z, rest_s, oAdd_i, oAdd_t, oAdd_l, oAdd_s, oSub_i, oMul_i, oMul_t, oII_i, oII0_i, oIx_l, oIx_t, oIx_f, oIsN_n, oNotN_n, oLen_l, oLen_t, oLen_f, oInt_i, oInt_b, oI1_i, oNeg_i, oList_l, oList_t, oTuple_l, oTuple_t, oBs_l, oSl_l, oSl_t, oIsi_ap, oIsi2_ap, tyD_n, tyD_b, tyD_i, tyD_s, tyD_t, tyD_l, tyD_f, truD_n, truD_b, truD_i, truD_t, truD_l, asB_b, asI_i, asL_l, isL_l, isL_t, isL_i, isL_b, isL_n, itD_l, itD_t, itD_f, fApp_ap, fExt_ap, ex_some, onS_ap, ite_t, ite_f, bodyD_ap, ioD_c, start_ap, isi_int_NoneType, isi_int_bool, isi_int_int, isi_int_str, isi_int_tuple, isi_int_list, isi_int_dict, isi_bool_NoneType, isi_bool_bool, isi_bool_int, isi_bool_str, isi_bool_tuple, isi_bool_list, isi_bool_dict, isi_str_NoneType, isi_str_bool, isi_str_int, isi_str_str, isi_str_tuple, isi_str_list, isi_str_dict, isi_list_NoneType, isi_list_bool, isi_list_int, isi_list_str, isi_list_tuple, isi_list_list, isi_list_dict, isi_tuple_NoneType, isi_tuple_bool, isi_tuple_int, isi_tuple_str, isi_tuple_tuple, isi_tuple_list, isi_tuple_dict, isi_dict_NoneType, isi_dict_bool, isi_dict_int, isi_dict_str, isi_dict_tuple, isi_dict_list, isi_dict_dict, List.map_cons, List.map_nil, List.cons_append, List.nil_append, List.length_cons, List.length_nil, List.replicate_succ, List.replicate_zero, Nat.reduceAdd, Nat.reduceSub, Nat.zero_add, true_and, and_true, Bool.not_true, Bool.not_false, Bool.true_or, Bool.or_true, Bool.false_or, Bool.or_false, if_true, if_false, Bool.false_eq_true])
    refine q _ _ ?_
    rw [zp_ints, List.map_map]
    show D.tup _ = tI _
    unfold tI
    congr 1
    show _ = List.map D.int (List.zipWith (· + ·) xs ys)
    rw [← List.map_uncurry_zip_eq_zipWith, List.map_map]
    rfl
theorem h_times_sum : ∀ ds EF PF, f_times_sum ds EF PF → ds.length = 2 ∧ bodyD 3 b_times_sum ds EF PF := by
  rintro ds EF PF ⟨⟨b, xs⟩, rfl, ⟨p1, p2, p3⟩, q⟩
  refine ⟨rfl, ?_⟩
  unfold b_times_sum
  (try simp only [wC_ap, wSetI_ap, wExpr_ap, wRet_ap, wRetN_ap, wRet0_ap, wIf_ap, wFor_ap, wWhile_ap, wBreak_ap, wCont_ap, wNever_ap, wPick_ap, wCallL_ap, wOp_ap, wIxO_ap, wNoPart_ap, wPart_ap, wSl_ap, wUn_ap, wTest_ap, wChain_ap, wTru_ap, wNotT_ap, wAndT_ap, wOrT_ap, wAnd_ap, wOr_ap, wNot_ap, wIfE_ap, wNil_ap, wCons_ap, wTup_ap, wLst_ap, wCall_ap, wCall0_ap, wCallIo_ap, wYes_ap, wGn_ap, wSr_ap, wEn_ap, wZp_ap, wRg1_ap, wRg2_ap, wLc_ap, wMeth_ap, wMeth0_ap, wNext_ap, wSeq_ap, wAsg_ap, wSet_ap, wV_ap, wPar_ap, par2_ap, wGnil_ap, wGcons_ap, wGtup_ap, sl_z, sl_s, set_z, set_s, wipe_z, wipe_s, rest_z, rest_s, oAdd_i, oAdd_t, oAdd_l, oAdd_s, oSub_i, oMul_i, oMul_t, oII_i, oII0_i, oIx_l, oIx_t, oIx_f, oIsN_n, oNotN_n, oLen_l, oLen_t, oLen_f, oInt_i, oInt_b, oI1_i, oNeg_i, oList_l, oList_t, oTuple_l, oTuple_t, oBs_l, oSl_l, oSl_t, oIsi_ap, oIsi2_ap, tyD_n, tyD_b, tyD_i, tyD_s, tyD_t, tyD_l, tyD_f, truD_n, truD_b, truD_i, truD_t, truD_l, asB_b, asI_i, asL_l, isL_l, isL_t, isL_i, isL_b, isL_n, itD_l, itD_t, itD_f, fApp_ap, fExt_ap, ex_some, onS_ap, ite_t, ite_f, bodyD_ap, ioD_c, start_ap, isi_int_NoneType, isi_int_bool, isi_int_int, isi_int_str, isi_int_tuple, isi_int_list, isi_int_dict, isi_bool_NoneType, isi_bool_bool, isi_bool_int, isi_bool_str, isi_bool_tuple, isi_bool_list, isi_bool_dict, isi_str_NoneType, isi_str_bool, isi_str_int, isi_str_str, isi_str_tuple, isi_str_list, isi_str_dict, isi_list_NoneType, isi_list_bool, isi_list_int, isi_list_str, isi_list_tuple, isi_list_list, isi_list_dict, isi_tuple_NoneType, isi_tuple_bool, isi_tuple_int, isi_tuple_str, isi_tuple_tuple, isi_tuple_list, isi_tuple_dict, isi_dict_NoneType, isi_dict_bool, isi_dict_int, isi_dict_str, isi_dict_tuple, isi_dict_list, isi_dict_dict, List.map_cons, List.map_nil, List.cons_append, List.nil_append, List.length_cons, List.length_nil, List.replicate_succ, List.replicate_zero, Nat.reduceAdd, Nat.reduceSub, Nat.zero_add, true_and, and_true, Bool.not_true, Bool.not_false, Bool.true_or, Bool.or_true, Bool.false_or, Bool.or_false, if_true, if_false, Bool.false_eq_true])
  refine ⟨.int b, rfl, rfl, ?_⟩
  rintro r c' rfl
  (try simp only [wC_ap, wSetI_ap, wExpr_ap, wRet_ap, wRetN_ap, wRet0_ap, wIf_ap, wFor_ap, wWhile_ap, wBreak_ap, wCont_ap, wNever_ap, wPick_ap, wCallL_ap, wOp_ap, wIxO_ap, wNoPart_ap, wPart_ap, wSl_ap, wUn_ap, wTest_ap, wChain_ap, wTru_ap, wNotT_ap, wAndT_ap, wOrT_ap, wAnd_ap, wOr_ap, wNot_ap, wIfE_ap, wNil_ap, wCons_ap, wTup_ap, wLst_ap, wCall_ap, wCall0_ap, wCallIo_ap, wYes_ap, wGn_ap, wSr_ap, wEn_ap, wZp_ap, wRg1_ap, wRg2_ap, wLc_ap, wMeth_ap, wMeth0_ap, wNext_ap, wSeq_ap, wAsg_ap, wSet_ap, wV_ap, wPar_ap, par2_ap, wGnil_ap, wGcons_ap, wGtup_ap, sl_z, sl_s, set_z, set_s, wipe_z, wipe_s, rest_z, rest_s, oAdd_i, oAdd_t, oAdd_l, oAdd_s, oSub_i, oMul_i, oMul_t, oII_i, oII0_i, oIx_l, oIx_t, oIx_f, oIsN_n, oNotN_n, oLen_l, oLen_t, oLen_f, oInt_i, oInt_b, oI1_i, oNeg_i, oList_l, oList_t, oTuple_l, oTuple_t, oBs_l, oSl_l, oSl_t, oIsi_ap, oIsi2_ap, tyD_n, tyD_b, tyD_i, tyD_s, tyD_t, tyD_l, tyD_f, truD_n, truD_b, truD_i, truD_t, truD_l, asB_b, asI_i, asL_l, isL_l, isL_t, isL_i, isL_b, isL_n, itD_l, itD_t, itD_f, fApp_ap, fExt_ap, ex_some, onS_ap, ite_t, ite_f, bodyD_ap, ioD_c, start_ap, isi_int_NoneType, isi_int_bool, isi_int_int, isi_int_str, isi_int_tuple, isi_int_list, isi_int_dict, isi_bool_NoneType, isi_bool_bool, isi_bool_int, isi_bool_str, isi_bool_tuple, isi_bool_list, isi_bool_dict, isi_str_NoneType, isi_str_bool, isi_str_int, isi_str_str, isi_str_tuple, isi_str_list, isi_str_dict, isi_list_NoneType, isi_list_bool, isi_list_int, isi_list_str, isi_list_tuple, isi_list_list, isi_list_dict, isi_tuple_NoneType, isi_tuple_bool, isi_tuple_int, isi_tuple_str, isi_tuple_tuple, isi_tuple_list, isi_tuple_dict, isi_dict_NoneType, isi_dict_bool, isi_dict_int, isi_dict_str, isi_dict_tuple, isi_dict_list, isi_dict_dict, List.map_cons, List.map_nil, List.cons_append, List.nil_append, List.length_cons, List.length_nil, List.replicate_succ, List.replicate_zero, Nat.reduceAdd, Nat.reduceSub, Nat.zero_add, true_and, and_true, Bool.not_true, Bool.not_false, Bool.true_or, Bool.or_true, Bool.false_or, Bool.or_false, if_true, if_false, Bool.false_eq_true, isW])
  refine ⟨xs, rfl, p1, ?_⟩
  rintro r c' rfl
  (try simp only [wC_ap, wSetI_ap, wExpr_ap, wRet_ap, wRetN_ap, wRet0_ap, wIf_ap, wFor_ap, wWhile_ap, wBreak_ap, wCont_ap, wNever_ap, wPick_ap, wCallL_ap, wOp_ap, wIxO_ap, wNoPart_ap, wPart_ap, wSl_ap, wUn_ap, wTest_ap, wChain_ap, wTru_ap, wNotT_ap, wAndT_ap, wOrT_ap, wAnd_ap, wOr_ap, wNot_ap, wIfE_ap, wNil_ap, wCons_ap, wTup_ap, wLst_ap, wCall_ap, wCall0_ap, wCallIo_ap, wYes_ap, wGn_ap, wSr_ap, wEn_ap, wZp_ap, wRg1_ap, wRg2_ap, wLc_ap, wMeth_ap, wMeth0_ap, wNext_ap, wSeq_ap, wAsg_ap, wSet_ap, wV_ap, wPar_ap, par2_ap, wGnil_ap, wGcons_ap, wGtup_ap, sl_z, sl_s, set_z, set_s, wipe_z, wipe_s, rest_z, rest_s, oAdd_i, oAdd_t, oAdd_l, oAdd_s, oSub_i, oMul_i, oMul_t, oII_i, oII0_i, oIx_l, oIx_t, oIx_f, oIsN_n, oNotN_n, oLen_l, oLen_t, oLen_f, oInt_i, oInt_b, oI1_i, oNeg_i, oList_l, oList_t, oTuple_l, oTuple_t, oBs_l, oSl_l, oSl_t, oIsi_ap, oIsi2_ap, tyD_n, tyD_b, tyD_i, tyD_s, tyD_t, tyD_l, tyD_f, truD_n, truD_b, truD_i, truD_t, truD_l, asB_b, asI_i, asL_l, isL_l, isL_t, isL_i, isL_b, isL_n, itD_l, itD_t, itD_f, fApp_ap, fExt_ap, ex_some, onS_ap, ite_t, ite_f, bodyD_ap, ioD_c, start_ap, isi_int_NoneType, isi_int_bool, isi_int_int, isi_int_str, isi_int_tuple, isi_int_list, isi_int_dict, isi_bool_NoneType, isi_bool_bool, isi_bool_int, isi_bool_str, isi_bool_tuple, isi_bool_list, isi_bool_dict, isi_str_NoneType, isi_str_bool, isi_str_int, isi_str_str, isi_str_tuple, isi_str_list, isi_str_dict, isi_list_NoneType, isi_list_bool, isi_list_int, isi_list_str, isi_list_tuple, isi_list_list, isi_list_dict, isi_tuple_NoneType, isi_tuple_bool, isi_tuple_int, isi_tuple_str, isi_tuple_tuple, isi_tuple_list, isi_tuple_dict, isi_dict_NoneType, isi_dict_bool, isi_dict_int, isi_dict_str, isi_dict_tuple, isi_dict_list, isi_dict_dict, List.map_cons, List.map_nil, List.cons_append, List.nil_append, List.length_cons, List.length_nil, List.replicate_succ, List.replicate_zero, Nat.reduceAdd, Nat.reduceSub, Nat.zero_add, true_and, and_true, Bool.not_true, Bool.not_false, Bool.true_or, Bool.or_true, Bool.false_or, Bool.or_false, if_true, if_false, Bool.false_eq_true, itD_tI])
  refine ⟨?_, lc_map (fun d => match d with | .int a => .int (b * a) | _ => .non) ?_ ?_⟩
  · rw [List.length_map]
    have : xs.length ≤ 11 := p1.2
    exact small_z (by omega)
  · intro d hd K1 h1
    obtain ⟨z, _, rfl⟩ := List.mem_map.mp hd
    (try simp only [wC_ap, wSetI_ap, wExpr_ap, wRet_ap, wRetN_ap, wRet0_ap, wIf_ap, wFor_ap, wWhile_ap, wBreak_ap, wCont_ap, wNever_ap, wPick_ap, wCallL_ap, wOp_ap, wIxO_ap, wNoPart_ap, wPart_ap, wSl_ap, wUn_ap, wTest_ap, wChain_ap, wTru_ap, wNotT_ap, wAndT_ap, wOrT_ap, wAnd_ap, wOr_ap, wNot_ap, wIfE_ap, wNil_ap, wCons_ap, wTup_ap, wLst_ap, wCall_ap, wCall0_ap, wCallIo_ap, wYes_ap, wGn_ap, wSr_ap, wEn_ap, wZp_ap, wRg1_ap, wRg2_ap, wLc_ap, wMeth_ap, wMeth0_ap, wNext_ap, wSeq_ap, wAsg_ap, wSet_ap, wV_ap, wPar_ap, par2_ap, wGnil_ap, wGcons_ap, wGtup_ap, sl_z, sl_s, set_z, set_s, wipe_z, wipe_s, rest_z, rest_s, oAdd_i, oAdd_t, oAdd_l, oAdd_s, oSub_i, oMul_i, oMul_t, oII_i, oII0_i, oIx_l, oIx_t, oIx_f, oIsN_n, oNotN_n, oLen_l, oLen_t, oLen_f, oInt_i, oInt_b, oI1_i, oNeg_i, oList_l, oList_t, oTuple_l, oTuple_t, oBs_l, oSl_l, oSl_t, oIsi_ap, oIsi2_ap, tyD_n, tyD_b, tyD_i, tyD_s, tyD_t, tyD_l, tyD_f, truD_n, truD_b, truD_i, truD_t, truD_l, asB_b, asI_i, asL_l, isL_l, isL_t, isL_i, isL_b, isL_n, itD_l, itD_t, itD_f, fApp_ap, fExt_ap, ex_some, onS_ap, ite_t, ite_f, bodyD_ap, ioD_c, start_ap, isi_int_NoneType, isi_int_bool, isi_int_int, isi_int_str, isi_int_tuple, isi_int_list, isi_int_dict, isi_bool_NoneType, isi_bool_bool, isi_bool_int, isi_bool_str, isi_bool_tuple, isi_bool_list, isi_bool_dict, isi_str_NoneType, isi_str_bool, isi_str_int, isi_str_str, isi_str_tuple, isi_str_list, isi_str_dict, isi_list_NoneType, isi_list_bool, isi_list_int, isi_list_str, isi_list_tuple, isi_list_list, isi_list_dict, isi_tuple_NoneType, isi_tuple_bool, isi_tuple_int, isi_tuple_str, isi_tuple_tuple, isi_tuple_list, isi_tuple_dict, isi_dict_NoneType, isi_dict_bool, isi_dict_int, isi_dict_str, isi_dict_tuple, isi_dict_list, isi_dict_dict, List.map_cons, List.map_nil, List.cons_append, List.nil_append, List.length_cons, List.length_nil, List.replicate_succ, List.replicate_zero, Nat.reduceAdd, Nat.reduceSub, Nat.zero_add, true_and, and_true, Bool.not_true, Bool.not_false, Bool.true_or, Bool.or_true, Bool.false_or, Bool.or_false, if_true, if_false, Bool.false_eq_true])
    exact ⟨mulOk_l p2 p3, h1 _ rfl⟩
  · (try simp only [wC_ap, wSetI_ap, wExpr_ap, wRet_ap, wRetN_ap, wRet0_ap, wIf_ap, wFor_ap, wWhile_ap, wBreak_ap, wCont_ap, wNever_ap, wPick_ap, wCallL_ap, wOp_ap, wIxO_ap, wNoPart_ap, wPart_ap, wSl_ap, wUn_ap, wTest_ap, wChain_ap, wTru_ap, wNotT_ap, wAndT_ap, wOrT_ap, wAnd_ap, wOr_ap, wNot_ap, wIfE_ap, wNil_ap, wCons_ap, wTup_ap, wLst_ap, wCall_ap, wCall0_ap, wCallIo_ap, wYes_ap, wGn_ap, wSr_ap, wEn_ap, wZp_ap, wRg1_ap, wRg2_ap, wLc_ap, wMeth_ap, wMeth0_ap, wNext_ap, wSeq_ap, wAsg_ap, wSet_ap, wV_ap, wPar_ap, par2_ap, wGnil_ap, wGcons_ap, wGtup_ap, sl_z, sl_s, set_z, set_s, wipe_z, wipe_s, rest_z, rest_s, oAdd_i, oAdd_t, oAdd_l, oAdd_s, oSub_i, oMul_i, oMul_t, oII_i, oII0_i, oIx_l, oIx_t, oIx_f, oIsN_n, oNotN_n, oLen_l, oLen_t, oLen_f, oInt_i, oInt_b, oI1_i, oNeg_i, oList_l, oList_t, oTuple_l, oTuple_t, oBs_l, oSl_l, oSl_t, oIsi_ap, oIsi2_ap, tyD_n, tyD_b, tyD_i, tyD_s, tyD_t, tyD_l, tyD_f, truD_n, truD_b, truD_i, truD_t, truD_l, asB_b, asI_i, asL_l, isL_l, isL_t, isL_i, isL_b, isL_n, itD_l, itD_t, itD_f, fApp_ap, fExt_ap, ex_some, onS_ap, ite_t, ite_f, bodyD_ap, ioD_c, start_ap, isi_int_NoneType, isi_int_bool, isi_int_int, isi_int_str, isi_int_tuple, isi_int_list, isi_int_dict, isi_bool_NoneType, isi_bool_bool, isi_bool_int, isi_bool_str, isi_bool_tuple, isi_bool_list, isi_bool_dict, isi_str_NoneType, isi_str_bool, isi_str_int, isi_str_str, isi_str_tuple, isi_str_list, isi_str_dict, isi_list_NoneType, isi_list_bool, isi_list_int, isi_list_str, isi_list_tuple, isi_list_list, isi_list_dict, isi_tuple_NoneType, isi_tuple_bool, isi_tuple_int, isi_tuple_str, isi_tuple_tuple, isi_tuple_list, isi_tuple_dict, isi_dict_NoneType, isi_dict_bool, isi_dict_int, isi_dict_str, isi_dict_tuple, isi_dict_list, isi_dict_dict, List.map_cons, List.map_nil, List.cons_append, List.nil_append, List.length_cons, List.length_nil, List.replicate_succ, List.replicate_zero, Nat.reduceAdd, Nat.reduceSub, Nat.zero_add, true_and, and_true, Bool.not_true, Bool.not_false, Bool.true_or, Bool.or_true, Bool.false_or, Bool.or_false, if_true, if_false, Bool.false_eq_true])
    refine q _ _ ?_
    show D.tup _ = tI (xs.map (b * ·))
    unfold tI
    rw [List.map_map, List.map_map]; rfl
theorem h_plain_sum : ∀ ds EF PF, f_plain_sum ds EF PF → ds.length = 1 ∧ bodyD 3 b_plain_sum ds EF PF := by
  rintro ds EF PF ⟨⟨fs, k⟩, rfl, ⟨p1, p2⟩, q⟩
  refine ⟨rfl, ?_⟩
  have hcut : cutD ((fs ++ [k]).map D.int) none (some (-1)) = fs.map D.int := by rw [List.map_append]; exact cut_m1 _ _
  have hsl : ∀ P : D → Prop, oSl none (some (-1)) (tI (fs ++ [k])) P = P (tI fs) := fun P => by
    unfold tI
    rw [oSl_t, hcut]
  have hix : ∀ P : D → Prop, oIx (tI (fs ++ [k])) (.int (-1)) P = P (.int k) := fun P => by
    rw [oIx_tI, atI_intm1, onS_ap]
  unfold b_plain_sum
  (try simp only [wC_ap, wSetI_ap, wExpr_ap, wRet_ap, wRetN_ap, wRet0_ap, wIf_ap, wFor_ap, wWhile_ap, wBreak_ap, wCont_ap, wNever_ap, wPick_ap, wCallL_ap, wOp_ap, wIxO_ap, wNoPart_ap, wPart_ap, wSl_ap, wUn_ap, wTest_ap, wChain_ap, wTru_ap, wNotT_ap, wAndT_ap, wOrT_ap, wAnd_ap, wOr_ap, wNot_ap, wIfE_ap, wNil_ap, wCons_ap, wTup_ap, wLst_ap, wCall_ap, wCall0_ap, wCallIo_ap, wYes_ap, wGn_ap, wSr_ap, wEn_ap, wZp_ap, wRg1_ap, wRg2_ap, wLc_ap, wMeth_ap, wMeth0_ap, wNext_ap, wSeq_ap, wAsg_ap, wSet_ap, wV_ap, wPar_ap, par2_ap, wGnil_ap, wGcons_ap, wGtup_ap, sl_z, sl_s, set_z, set_s, wipe_z, wipe_s, rest_z, rest_s, oAdd_i, oAdd_t, oAdd_l, oAdd_s, oSub_i, oMul_i, oMul_t, oII_i, oII0_i, oIx_l, oIx_t, oIx_f, oIsN_n, oNotN_n, oLen_l, oLen_t, oLen_f, oInt_i, oInt_b, oI1_i, oNeg_i, oList_l, oList_t, oTuple_l, oTuple_t, oBs_l, oSl_l, oSl_t, oIsi_ap, oIsi2_ap, tyD_n, tyD_b, tyD_i, tyD_s, tyD_t, tyD_l, tyD_f, truD_n, truD_b, truD_i, truD_t, truD_l, asB_b, asI_i, asL_l, isL_l, isL_t, isL_i, isL_b, isL_n, itD_l, itD_t, itD_f, fApp_ap, fExt_ap, ex_some, onS_ap, ite_t, ite_f, bodyD_ap, ioD_c, start_ap, isi_int_NoneType, isi_int_bool, isi_int_int, isi_int_str, isi_int_tuple, isi_int_list, isi_int_dict, isi_bool_NoneType, isi_bool_bool, isi_bool_int, isi_bool_str, isi_bool_tuple, isi_bool_list, isi_bool_dict, isi_str_NoneType, isi_str_bool, isi_str_int, isi_str_str, isi_str_tuple, isi_str_list, isi_str_dict, isi_list_NoneType, isi_list_bool, isi_list_int, isi_list_str, isi_list_tuple, isi_list_list, isi_list_dict, isi_tuple_NoneType, isi_tuple_bool, isi_tuple_int, isi_tuple_str, isi_tuple_tuple, isi_tuple_list, isi_tuple_dict, isi_dict_NoneType, isi_dict_bool, isi_dict_int, isi_dict_str, isi_dict_tuple, isi_dict_list, isi_dict_dict, List.map_cons, List.map_nil, List.cons_append, List.nil_append, List.length_cons, List.length_nil, List.replicate_succ, List.replicate_zero, Nat.reduceAdd, Nat.reduceSub, Nat.zero_add, true_and, and_true, Bool.not_true, Bool.not_false, Bool.true_or, Bool.or_true, Bool.false_or, Bool.or_false, if_true, if_false, Bool.false_eq_true])
  refine ⟨fs ++ [k], rfl, ⟨by simp, by have : fs.length ≤ 10 := p1; simp; omega⟩, ?_⟩
  rintro r c' rfl
  rw [hsl]
  refine ⟨fs, rfl, trivial, ?_⟩
  rintro r c' rfl
  (try simp only [wC_ap, wSetI_ap, wExpr_ap, wRet_ap, wRetN_ap, wRet0_ap, wIf_ap, wFor_ap, wWhile_ap, wBreak_ap, wCont_ap, wNever_ap, wPick_ap, wCallL_ap, wOp_ap, wIxO_ap, wNoPart_ap, wPart_ap, wSl_ap, wUn_ap, wTest_ap, wChain_ap, wTru_ap, wNotT_ap, wAndT_ap, wOrT_ap, wAnd_ap, wOr_ap, wNot_ap, wIfE_ap, wNil_ap, wCons_ap, wTup_ap, wLst_ap, wCall_ap, wCall0_ap, wCallIo_ap, wYes_ap, wGn_ap, wSr_ap, wEn_ap, wZp_ap, wRg1_ap, wRg2_ap, wLc_ap, wMeth_ap, wMeth0_ap, wNext_ap, wSeq_ap, wAsg_ap, wSet_ap, wV_ap, wPar_ap, par2_ap, wGnil_ap, wGcons_ap, wGtup_ap, sl_z, sl_s, set_z, set_s, wipe_z, wipe_s, rest_z, rest_s, oAdd_i, oAdd_t, oAdd_l, oAdd_s, oSub_i, oMul_i, oMul_t, oII_i, oII0_i, oIx_l, oIx_t, oIx_f, oIsN_n, oNotN_n, oLen_l, oLen_t, oLen_f, oInt_i, oInt_b, oI1_i, oNeg_i, oList_l, oList_t, oTuple_l, oTuple_t, oBs_l, oSl_l, oSl_t, oIsi_ap, oIsi2_ap, tyD_n, tyD_b, tyD_i, tyD_s, tyD_t, tyD_l, tyD_f, truD_n, truD_b, truD_i, truD_t, truD_l, asB_b, asI_i, asL_l, isL_l, isL_t, isL_i, isL_b, isL_n, itD_l, itD_t, itD_f, fApp_ap, fExt_ap, ex_some, onS_ap, ite_t, ite_f, bodyD_ap, ioD_c, start_ap, isi_int_NoneType, isi_int_bool, isi_int_int, isi_int_str, isi_int_tuple, isi_int_list, isi_int_dict, isi_bool_NoneType, isi_bool_bool, isi_bool_int, isi_bool_str, isi_bool_tuple, isi_bool_list, isi_bool_dict, isi_str_NoneType, isi_str_bool, isi_str_int, isi_str_str, isi_str_tuple, isi_str_list, isi_str_dict, isi_list_NoneType, isi_list_bool, isi_list_int, isi_list_str, isi_list_tuple, isi_list_list, isi_list_dict, isi_tuple_NoneType, isi_tuple_bool, isi_tuple_int, isi_tuple_str, isi_tuple_tuple, isi_tuple_list, isi_tuple_dict, isi_dict_NoneType, isi_dict_bool, isi_dict_int, isi_dict_str, isi_dict_tuple, isi_dict_list, isi_dict_dict, List.map_cons, List.map_nil, List.cons_append, List.nil_append, List.length_cons, List.length_nil, List.replicate_succ, List.replicate_zero, Nat.reduceAdd, Nat.reduceSub, Nat.zero_add, true_and, and_true, Bool.not_true, Bool.not_false, Bool.true_or, Bool.or_true, Bool.false_or, Bool.or_false, if_true, if_false, Bool.false_eq_true])
  refine ⟨rfl, rfl, ?_⟩
  by_cases h : gcdL fs = 0
  · have e : eqD (.int ((gcdL fs : Nat) : Int)) (.int 0) = true := by rw [h]; exact eqD_int_self _
    (try simp only [wC_ap, wSetI_ap, wExpr_ap, wRet_ap, wRetN_ap, wRet0_ap, wIf_ap, wFor_ap, wWhile_ap, wBreak_ap, wCont_ap, wNever_ap, wPick_ap, wCallL_ap, wOp_ap, wIxO_ap, wNoPart_ap, wPart_ap, wSl_ap, wUn_ap, wTest_ap, wChain_ap, wTru_ap, wNotT_ap, wAndT_ap, wOrT_ap, wAnd_ap, wOr_ap, wNot_ap, wIfE_ap, wNil_ap, wCons_ap, wTup_ap, wLst_ap, wCall_ap, wCall0_ap, wCallIo_ap, wYes_ap, wGn_ap, wSr_ap, wEn_ap, wZp_ap, wRg1_ap, wRg2_ap, wLc_ap, wMeth_ap, wMeth0_ap, wNext_ap, wSeq_ap, wAsg_ap, wSet_ap, wV_ap, wPar_ap, par2_ap, wGnil_ap, wGcons_ap, wGtup_ap, sl_z, sl_s, set_z, set_s, wipe_z, wipe_s, rest_z, rest_s, oAdd_i, oAdd_t, oAdd_l, oAdd_s, oSub_i, oMul_i, oMul_t, oII_i, oII0_i, oIx_l, oIx_t, oIx_f, oIsN_n, oNotN_n, oLen_l, oLen_t, oLen_f, oInt_i, oInt_b, oI1_i, oNeg_i, oList_l, oList_t, oTuple_l, oTuple_t, oBs_l, oSl_l, oSl_t, oIsi_ap, oIsi2_ap, tyD_n, tyD_b, tyD_i, tyD_s, tyD_t, tyD_l, tyD_f, truD_n, truD_b, truD_i, truD_t, truD_l, asB_b, asI_i, asL_l, isL_l, isL_t, isL_i, isL_b, isL_n, itD_l, itD_t, itD_f, fApp_ap, fExt_ap, ex_some, onS_ap, ite_t, ite_f, bodyD_ap, ioD_c, start_ap, isi_int_NoneType, isi_int_bool, isi_int_int, isi_int_str, isi_int_tuple, isi_int_list, isi_int_dict, isi_bool_NoneType, isi_bool_bool, isi_bool_int, isi_bool_str, isi_bool_tuple, isi_bool_list, isi_bool_dict, isi_str_NoneType, isi_str_bool, isi_str_int, isi_str_str, isi_str_tuple, isi_str_list, isi_str_dict, isi_list_NoneType, isi_list_bool, isi_list_int, isi_list_str, isi_list_tuple, isi_list_list, isi_list_dict, isi_tuple_NoneType, isi_tuple_bool, isi_tuple_int, isi_tuple_str, isi_tuple_tuple, isi_tuple_list, isi_tuple_dict, isi_dict_NoneType, isi_dict_bool, isi_dict_int, isi_dict_str, isi_dict_tuple, isi_dict_list, isi_dict_dict, List.map_cons, List.map_nil, List.cons_append, List.nil_append, List.length_cons, List.length_nil, List.replicate_succ, List.replicate_zero, Nat.reduceAdd, Nat.reduceSub, Nat.zero_add, true_and, and_true, Bool.not_true, Bool.not_false, Bool.true_or, Bool.or_true, Bool.false_or, Bool.or_false, if_true, if_false, Bool.false_eq_true, e, hsl, hix])
    refine ⟨small_z (by decide), ?_, q _ _ ?_⟩
    · simp only [List.length_map, List.length_cons, List.length_nil]; have : fs.length ≤ 10 := p1; exact small_z (by omega)
    · show _ = tI (plainS fs k)
      unfold plainS
      rw [if_pos h]
      unfold tI
      rw [List.map_append]
      by_cases hk : 0 < k
      · simp [hk]
      · simp [hk]
  · have e : eqD (.int ((gcdL fs : Nat) : Int)) (.int 0) = false := eqD_int_ne (by omega)
    (try simp only [wC_ap, wSetI_ap, wExpr_ap, wRet_ap, wRetN_ap, wRet0_ap, wIf_ap, wFor_ap, wWhile_ap, wBreak_ap, wCont_ap, wNever_ap, wPick_ap, wCallL_ap, wOp_ap, wIxO_ap, wNoPart_ap, wPart_ap, wSl_ap, wUn_ap, wTest_ap, wChain_ap, wTru_ap, wNotT_ap, wAndT_ap, wOrT_ap, wAnd_ap, wOr_ap, wNot_ap, wIfE_ap, wNil_ap, wCons_ap, wTup_ap, wLst_ap, wCall_ap, wCall0_ap, wCallIo_ap, wYes_ap, wGn_ap, wSr_ap, wEn_ap, wZp_ap, wRg1_ap, wRg2_ap, wLc_ap, wMeth_ap, wMeth0_ap, wNext_ap, wSeq_ap, wAsg_ap, wSet_ap, wV_ap, wPar_ap, par2_ap, wGnil_ap, wGcons_ap, wGtup_ap, sl_z, sl_s, set_z, set_s, wipe_z, wipe_s, rest_z, rest_s, oAdd_i, oAdd_t, oAdd_l, oAdd_s, oSub_i, oMul_i, oMul_t, oII_i, oII0_i, oIx_l, oIx_t, oIx_f, oIsN_n, oNotN_n, oLen_l, oLen_t, oLen_f, oInt_i, oInt_b, oI1_i, oNeg_i, oList_l, oList_t, oTuple_l, oTuple_t, oBs_l, oSl_l, oSl_t, oIsi_ap, oIsi2_ap, tyD_n, tyD_b, tyD_i, tyD_s, tyD_t, tyD_l, tyD_f, truD_n, truD_b, truD_i, truD_t, truD_l, asB_b, asI_i, asL_l, isL_l, isL_t, isL_i, isL_b, isL_n, itD_l, itD_t, itD_f, fApp_ap, fExt_ap, ex_some, onS_ap, ite_t, ite_f, bodyD_ap, ioD_c, start_ap, isi_int_NoneType, isi_int_bool, isi_int_int, isi_int_str, isi_int_tuple, isi_int_list, isi_int_dict, isi_bool_NoneType, isi_bool_bool, isi_bool_int, isi_bool_str, isi_bool_tuple, isi_bool_list, isi_bool_dict, isi_str_NoneType, isi_str_bool, isi_str_int, isi_str_str, isi_str_tuple, isi_str_list, isi_str_dict, isi_list_NoneType, isi_list_bool, isi_list_int, isi_list_str, isi_list_tuple, isi_list_list, isi_list_dict, isi_tuple_NoneType, isi_tuple_bool, isi_tuple_int, isi_tuple_str, isi_tuple_tuple, isi_tuple_list, isi_tuple_dict, isi_dict_NoneType, isi_dict_bool, isi_dict_int, isi_dict_str, isi_dict_tuple, isi_dict_list, isi_dict_dict, List.map_cons, List.map_nil, List.cons_append, List.nil_append, List.length_cons, List.length_nil, List.replicate_succ, List.replicate_zero, Nat.reduceAdd, Nat.reduceSub, Nat.zero_add, true_and, and_true, Bool.not_true, Bool.not_false, Bool.true_or, Bool.or_true, Bool.false_or, Bool.or_false, if_true, if_false, Bool.false_eq_true, e, hsl, hix, itD_tI])
    have g0 : 0 < (gcdL fs : Int) := by omega
    have g1 : (gcdL fs : Int) < 1073741824 := by have : gcdL fs < 1073741824 := p2; omega
    refine ⟨?_, lc_map (fun d => match d with | .int a => .int (a / (gcdL fs : Int)) | _ => .non) ?_ ?_⟩
    · rw [List.length_map]; have : fs.length ≤ 10 := p1; exact small_z (by omega)
    · intro d hd K1 h1
      obtain ⟨z, _, rfl⟩ := List.mem_map.mp hd
      (try simp only [wC_ap, wSetI_ap, wExpr_ap, wRet_ap, wRetN_ap, wRet0_ap, wIf_ap, wFor_ap, wWhile_ap, wBreak_ap, wCont_ap, wNever_ap, wPick_ap, wCallL_ap, wOp_ap, wIxO_ap, wNoPart_ap, wPart_ap, wSl_ap, wUn_ap, wTest_ap, wChain_ap, wTru_ap, wNotT_ap, wAndT_ap, wOrT_ap, wAnd_ap, wOr_ap, wNot_ap, wIfE_ap, wNil_ap, wCons_ap, wTup_ap, wLst_ap, wCall_ap, wCall0_ap, wCallIo_ap, wYes_ap, wGn_ap, wSr_ap, wEn_ap, wZp_ap, wRg1_ap, wRg2_ap, wLc_ap, wMeth_ap, wMeth0_ap, wNext_ap, wSeq_ap, wAsg_ap, wSet_ap, wV_ap, wPar_ap, par2_ap, wGnil_ap, wGcons_ap, wGtup_ap, sl_z, sl_s, set_z, set_s, wipe_z, wipe_s, rest_z, rest_s, oAdd_i, oAdd_t, oAdd_l, oAdd_s, oSub_i, oMul_i, oMul_t, oII_i, oII0_i, oIx_l, oIx_t, oIx_f, oIsN_n, oNotN_n, oLen_l, oLen_t, oLen_f, oInt_i, oInt_b, oI1_i, oNeg_i, oList_l, oList_t, oTuple_l, oTuple_t, oBs_l, oSl_l, oSl_t, oIsi_ap, oIsi2_ap, tyD_n, tyD_b, tyD_i, tyD_s, tyD_t, tyD_l, tyD_f, truD_n, truD_b, truD_i, truD_t, truD_l, asB_b, asI_i, asL_l, isL_l, isL_t, isL_i, isL_b, isL_n, itD_l, itD_t, itD_f, fApp_ap, fExt_ap, ex_some, onS_ap, ite_t, ite_f, bodyD_ap, ioD_c, start_ap, isi_int_NoneType, isi_int_bool, isi_int_int, isi_int_str, isi_int_tuple, isi_int_list, isi_int_dict, isi_bool_NoneType, isi_bool_bool, isi_bool_int, isi_bool_str, isi_bool_tuple, isi_bool_list, isi_bool_dict, isi_str_NoneType, isi_str_bool, isi_str_int, isi_str_str, isi_str_tuple, isi_str_list, isi_str_dict, isi_list_NoneType, isi_list_bool, isi_list_int, isi_list_str, isi_list_tuple, isi_list_list, isi_list_dict, isi_tuple_NoneType, isi_tuple_bool, isi_tuple_int, isi_tuple_str, isi_tuple_tuple, isi_tuple_list, isi_tuple_dict, isi_dict_NoneType, isi_dict_bool, isi_dict_int, isi_dict_str, isi_dict_tuple, isi_dict_list, isi_dict_dict, List.map_cons, List.map_nil, List.cons_append, List.nil_append, List.length_cons, List.length_nil, List.replicate_succ, List.replicate_zero, Nat.reduceAdd, Nat.reduceSub, Nat.zero_add, true_and, and_true, Bool.not_true, Bool.not_false, Bool.true_or, Bool.or_true, Bool.false_or, Bool.or_false, if_true, if_false, Bool.false_eq_true])
      refine ⟨divOk_s g0 g1, ?_⟩
      rw [Int.fdiv_eq_ediv_of_nonneg _ (by omega)]
      exact h1 _ rfl
    · (try simp only [wC_ap, wSetI_ap, wExpr_ap, wRet_ap, wRetN_ap, wRet0_ap, wIf_ap, wFor_ap, wWhile_ap, wBreak_ap, wCont_ap, wNever_ap, wPick_ap, wCallL_ap, wOp_ap, wIxO_ap, wNoPart_ap, wPart_ap, wSl_ap, wUn_ap, wTest_ap, wChain_ap, wTru_ap, wNotT_ap, wAndT_ap, wOrT_ap, wAnd_ap, wOr_ap, wNot_ap, wIfE_ap, wNil_ap, wCons_ap, wTup_ap, wLst_ap, wCall_ap, wCall0_ap, wCallIo_ap, wYes_ap, wGn_ap, wSr_ap, wEn_ap, wZp_ap, wRg1_ap, wRg2_ap, wLc_ap, wMeth_ap, wMeth0_ap, wNext_ap, wSeq_ap, wAsg_ap, wSet_ap, wV_ap, wPar_ap, par2_ap, wGnil_ap, wGcons_ap, wGtup_ap, sl_z, sl_s, set_z, set_s, wipe_z, wipe_s, rest_z, rest_s, oAdd_i, oAdd_t, oAdd_l, oAdd_s, oSub_i, oMul_i, oMul_t, oII_i, oII0_i, oIx_l, oIx_t, oIx_f, oIsN_n, oNotN_n, oLen_l, oLen_t, oLen_f, oInt_i, oInt_b, oI1_i, oNeg_i, oList_l, oList_t, oTuple_l, oTuple_t, oBs_l, oSl_l, oSl_t, oIsi_ap, oIsi2_ap, tyD_n, tyD_b, tyD_i, tyD_s, tyD_t, tyD_l, tyD_f, truD_n, truD_b, truD_i, truD_t, truD_l, asB_b, asI_i, asL_l, isL_l, isL_t, isL_i, isL_b, isL_n, itD_l, itD_t, itD_f, fApp_ap, fExt_ap, ex_some, onS_ap, ite_t, ite_f, bodyD_ap, ioD_c, start_ap, isi_int_NoneType, isi_int_bool, isi_int_int, isi_int_str, isi_int_tuple, isi_int_list, isi_int_dict, isi_bool_NoneType, isi_bool_bool, isi_bool_int, isi_bool_str, isi_bool_tuple, isi_bool_list, isi_bool_dict, isi_str_NoneType, isi_str_bool, isi_str_int, isi_str_str, isi_str_tuple, isi_str_list, isi_str_dict, isi_list_NoneType, isi_list_bool, isi_list_int, isi_list_str, isi_list_tuple, isi_list_list, isi_list_dict, isi_tuple_NoneType, isi_tuple_bool, isi_tuple_int, isi_tuple_str, isi_tuple_tuple, isi_tuple_list, isi_tuple_dict, isi_dict_NoneType, isi_dict_bool, isi_dict_int, isi_dict_str, isi_dict_tuple, isi_dict_list, isi_dict_dict, List.map_cons, List.map_nil, List.cons_append, List.nil_append, List.length_cons, List.length_nil, List.replicate_succ, List.replicate_zero, Nat.reduceAdd, Nat.reduceSub, Nat.zero_add, true_and, and_true, Bool.not_true, Bool.not_false, Bool.true_or, Bool.or_true, Bool.false_or, Bool.or_false, if_true, if_false, Bool.false_eq_true, hix])
      refine ⟨(k, (gcdL fs : Int)), rfl, ⟨g0, g1⟩, ?_⟩
      rintro r c' rfl
      refine ⟨small_z (by decide), ?_, q _ _ ?_⟩
      · simp only [List.length_map]; have : fs.length ≤ 10 := p1; exact small_z (by omega)
      · show _ = tI (plainS fs k)
        unfold plainS
        rw [if_neg h]
        unfold tI
        rw [List.map_append, List.map_map, List.map_map]
        rfl
end K51
set_option Elab.async false
set_option linter.all false
set_option maxRecDepth 100000
set_option maxHeartbeats 4000000
namespace K51
open PySem PySem.Spec L2 DL
open PyProof.Rows hiding St
/-! ### plain facts -/
theorem eqD_self {d : D} {n : Nat} (h : okD n d = true) : eqD d d = true := SeqAt.eqv_refl _ (okD_shape d n h).1
theorem pyL_ints : ∀ ns : List Int, pyL (ns.map D.int) = ns.map PyData.int
  | [] => rfl
  | n :: r => by
    show py (.int n) :: pyL (r.map D.int) = _
    rw [pyL_ints r]; rfl
theorem eqv_ints : ∀ ns ms : List Int, PyData.eqvAll (ns.map PyData.int) (ms.map PyData.int) = decide (ns = ms)
  | [], [] => by simp [PyData.eqvAll]
  | [], _ :: _ => by simp [PyData.eqvAll]
  | _ :: _, [] => by simp [PyData.eqvAll]
  | a :: r, b :: t => by
    simp only [List.map_cons, PyData.eqvAll, PyData.eqv, eqv_ints r t]
    by_cases h : a = b <;> by_cases h' : r = t <;> simp [h, h']
theorem eqD_tI (xs ys : List Int) : eqD (tI xs) (tI ys) = decide (xs = ys) := by
  unfold eqD tI py
  rw [PyData.eqv, pyL_ints, pyL_ints, eqv_ints]
theorem eqD_nil (ds : List D) : eqD (.lst ds) (.lst []) = ds.isEmpty := by
  unfold eqD py
  rw [PyData.eqv]
  cases ds with
  | nil => rfl
  | cons d r => unfold pyL; simp [PyData.eqvAll]
theorem okL_all : ∀ {n : Nat} {ds : List D}, (∀ d ∈ ds, okD n d = true) → okL n ds = true
  | n, [], _ => by unfold okL; rfl
  | n, d :: r, h => by
    unfold okL
    rw [h d (List.mem_cons_self ..), okL_all fun e he => h e (List.mem_cons_of_mem _ he)]; rfl
theorem okD_int (n : Nat) (i : Int) : okD n (.int i) = true := by cases n <;> (unfold okD; rfl)
theorem okD_tI (n : Nat) (ns : List Int) : okD (n + 1) (tI ns) = true := by
  unfold tI okD
  refine okL_all fun d hd => ?_
  obtain ⟨z, _, rfl⟩ := List.mem_map.mp hd
  exact okD_int _ _
theorem isi2_sq (b : Bool) (ds : List D) (P : D → Prop) : oIsi2 "list" "tuple" (sq b ds) P = P (.bl true) := by
  cases b
  · show P (.bl (isiT "list" "tuple" || isiT "tuple" "tuple")) = _
    rw [isi_list_tuple, isi_tuple_tuple]; rfl
  · show P (.bl (isiT "list" "list" || isiT "tuple" "list")) = _
    rw [isi_list_list]; rfl
theorem isi2_b (b : Bool) : (isiT "list" (if b = true then "list" else "tuple") || isiT "tuple" (if b = true then "list" else "tuple")) = true := by
  cases b
  · show (isiT "list" "tuple" || isiT "tuple" "tuple") = true
    rw [isi_list_tuple, isi_tuple_tuple]; rfl
  · show (isiT "list" "list" || isiT "tuple" "list") = true
    rw [isi_list_list]; rfl
theorem mid {α β : Type} {f : α → β} {xs : List α} {pre r : List β} {d : β} (e : xs.map f = pre ++ d :: r) : ∃ x ∈ xs, d = f x := by
  have : d ∈ xs.map f := by rw [e]; simp
  obtain ⟨z, h, hz⟩ := List.mem_map.mp this
  exact ⟨z, h, hz.symm⟩
theorem mid_len {α β : Type} {f : α → β} {xs : List α} {pre r : List β} {d : β} (e : xs.map f = pre ++ d :: r) : pre.length < xs.length := by
  have := congrArg List.length e
  simp at this
  omega
theorem gcd_le {a b B : Nat} (ha : a ≤ B) (hb : b ≤ B) : Nat.gcd a b ≤ B := by
  by_cases h : b = 0
  · subst h; rw [Nat.gcd_zero_right]; exact ha
  · exact Nat.le_trans (Nat.le_of_dvd (Nat.pos_of_ne_zero h) (Nat.gcd_dvd_right a b)) hb
theorem gcdL_le {B : Nat} (ns : List Int) (h : ∀ z ∈ ns, z.natAbs ≤ B) : gcdL ns ≤ B := by
  have key : ∀ (ns : List Int) (g : Nat), g ≤ B → (∀ z ∈ ns, z.natAbs ≤ B) → ns.foldl (fun g n => Nat.gcd g n.natAbs) g ≤ B := by
    intro ns
    induction ns with
    | nil => intro g hg _; exact hg
    | cons z r ih => intro g hg h; exact ih _ (gcd_le hg (h z (List.mem_cons_self ..))) fun y hy => h y (List.mem_cons_of_mem _ hy)
  exact key ns 0 (Nat.zero_le _) h
theorem split_last {s : List Int} (h : s ≠ []) : s.dropLast ++ [s.getLastD 0] = s := by
  have e : s.getLastD 0 = s.getLast h := by
    rw [List.getLastD_eq_getLast?, List.getLast?_eq_some_getLast h]; rfl
  rw [e, List.dropLast_concat_getLast]
theorem facAt_at {s : List Int} {i : Nat} (h : i < s.length) : atI (s.map D.int) (i : Int) = some (.int (facAt s i)) := atI_int (by unfold facAt; simp [h])
/-! need_sums, need_alike, need_cast -/
theorem h_need_sums : ∀ ds EF PF, f_need_sums ds EF PF → ds.length = 1 ∧ bodyD 2 b_need_sums ds EF PF := by
  rintro ds EF PF ⟨⟨b, ss⟩, rfl, p, q⟩
  refine ⟨rfl, ?_⟩
  unfold b_need_sums
  (try simp only [wC_ap, wSetI_ap, wExpr_ap, wRet_ap, wRetN_ap, wRet0_ap, wIf_ap, wFor_ap, wWhile_ap, wBreak_ap, wCont_ap, wNever_ap, wPick_ap, wCallL_ap, wOp_ap, wIxO_ap, wNoPart_ap, wPart_ap, wSl_ap, wUn_ap, wTest_ap, wChain_ap, wTru_ap, wNotT_ap, wAndT_ap, wOrT_ap, wAnd_ap, wOr_ap, wNot_ap, wIfE_ap, wNil_ap, wCons_ap, wTup_ap, wLst_ap, wCall_ap, wCall0_ap, wCallIo_ap, wYes_ap, wGn_ap, wSr_ap, wEn_ap, wZp_ap, wRg1_ap, wRg2_ap, wLc_ap, wMeth_ap, wMeth0_ap, wNext_ap, wSeq_ap, wAsg_ap, wSet_ap, wV_ap, wPar_ap, par2_ap, wGnil_ap, wGcons_ap, wGtup_ap, sl_z, sl_s, set_z, set_s, wipe_z, wipe_s, rest_z, rest_s, oAdd_i, oAdd_t, oAdd_l, oAdd_s, oSub_i, oMul_i, oMul_t, oII_i, oII0_i, oIx_l, oIx_t, oIx_f, oIsN_n, oNotN_n, oLen_l, oLen_t, oLen_f, oInt_i, oInt_b, oI1_i, oNeg_i, oList_l, oList_t, oTuple_l, oTuple_t, oBs_l, oSl_l, oSl_t, oIsi_ap, oIsi2_ap, tyD_n, tyD_b, tyD_i, tyD_s, tyD_t, tyD_l, tyD_f, truD_n, truD_b, truD_i, truD_t, truD_l, asB_b, asI_i, asL_l, isL_l, isL_t, isL_i, isL_b, isL_n, itD_l, itD_t, itD_f, fApp_ap, fExt_ap, ex_some, onS_ap, ite_t, ite_f, bodyD_ap, ioD_c, start_ap, isi_int_NoneType, isi_int_bool, isi_int_int, isi_int_str, isi_int_tuple, isi_int_list, isi_int_dict, isi_bool_NoneType, isi_bool_bool, isi_bool_int, isi_bool_str, isi_bool_tuple, isi_bool_list, isi_bool_dict, isi_str_NoneType, isi_str_bool, isi_str_int, isi_str_str, isi_str_tuple, isi_str_list, isi_str_dict, isi_list_NoneType, isi_list_bool, isi_list_int, isi_list_str, isi_list_tuple, isi_list_list, isi_list_dict, isi_tuple_NoneType, isi_tuple_bool, isi_tuple_int, isi_tuple_str, isi_tuple_tuple, isi_tuple_list, isi_tuple_dict, isi_dict_NoneType, isi_dict_bool, isi_dict_int, isi_dict_str, isi_dict_tuple, isi_dict_list, isi_dict_dict, List.map_cons, List.map_nil, List.cons_append, List.nil_append, List.length_cons, List.length_nil, List.replicate_succ, List.replicate_zero, Nat.reduceAdd, Nat.reduceSub, Nat.zero_add, true_and, and_true, Bool.not_true, Bool.not_false, Bool.true_or, Bool.or_true, Bool.false_or, Bool.or_false, if_true, if_false, Bool.false_eq_true, tyD_sq, isi2_b, itD_sq])
  refine for_inv (fun _ ε => ∃ o, ε = [some (sq b (ss.map tI)), o]) ?_ ?_ ⟨none, rfl⟩
  · rintro pre d r ε e ⟨o, rfl⟩ N hN
    obtain ⟨s, hs, rfl⟩ := mid e
    (try simp only [wC_ap, wSetI_ap, wExpr_ap, wRet_ap, wRetN_ap, wRet0_ap, wIf_ap, wFor_ap, wWhile_ap, wBreak_ap, wCont_ap, wNever_ap, wPick_ap, wCallL_ap, wOp_ap, wIxO_ap, wNoPart_ap, wPart_ap, wSl_ap, wUn_ap, wTest_ap, wChain_ap, wTru_ap, wNotT_ap, wAndT_ap, wOrT_ap, wAnd_ap, wOr_ap, wNot_ap, wIfE_ap, wNil_ap, wCons_ap, wTup_ap, wLst_ap, wCall_ap, wCall0_ap, wCallIo_ap, wYes_ap, wGn_ap, wSr_ap, wEn_ap, wZp_ap, wRg1_ap, wRg2_ap, wLc_ap, wMeth_ap, wMeth0_ap, wNext_ap, wSeq_ap, wAsg_ap, wSet_ap, wV_ap, wPar_ap, par2_ap, wGnil_ap, wGcons_ap, wGtup_ap, sl_z, sl_s, set_z, set_s, wipe_z, wipe_s, rest_z, rest_s, oAdd_i, oAdd_t, oAdd_l, oAdd_s, oSub_i, oMul_i, oMul_t, oII_i, oII0_i, oIx_l, oIx_t, oIx_f, oIsN_n, oNotN_n, oLen_l, oLen_t, oLen_f, oInt_i, oInt_b, oI1_i, oNeg_i, oList_l, oList_t, oTuple_l, oTuple_t, oBs_l, oSl_l, oSl_t, oIsi_ap, oIsi2_ap, tyD_n, tyD_b, tyD_i, tyD_s, tyD_t, tyD_l, tyD_f, truD_n, truD_b, truD_i, truD_t, truD_l, asB_b, asI_i, asL_l, isL_l, isL_t, isL_i, isL_b, isL_n, itD_l, itD_t, itD_f, fApp_ap, fExt_ap, ex_some, onS_ap, ite_t, ite_f, bodyD_ap, ioD_c, start_ap, isi_int_NoneType, isi_int_bool, isi_int_int, isi_int_str, isi_int_tuple, isi_int_list, isi_int_dict, isi_bool_NoneType, isi_bool_bool, isi_bool_int, isi_bool_str, isi_bool_tuple, isi_bool_list, isi_bool_dict, isi_str_NoneType, isi_str_bool, isi_str_int, isi_str_str, isi_str_tuple, isi_str_list, isi_str_dict, isi_list_NoneType, isi_list_bool, isi_list_int, isi_list_str, isi_list_tuple, isi_list_list, isi_list_dict, isi_tuple_NoneType, isi_tuple_bool, isi_tuple_int, isi_tuple_str, isi_tuple_tuple, isi_tuple_list, isi_tuple_dict, isi_dict_NoneType, isi_dict_bool, isi_dict_int, isi_dict_str, isi_dict_tuple, isi_dict_list, isi_dict_dict, List.map_cons, List.map_nil, List.cons_append, List.nil_append, List.length_cons, List.length_nil, List.replicate_succ, List.replicate_zero, Nat.reduceAdd, Nat.reduceSub, Nat.zero_add, true_and, and_true, Bool.not_true, Bool.not_false, Bool.true_or, Bool.or_true, Bool.false_or, Bool.or_false, if_true, if_false, Bool.false_eq_true])
    refine ⟨s, rfl, p s hs, ?_⟩
    rintro r c' rfl
    exact hN _ ⟨_, rfl⟩
  · rintro ε ⟨o, rfl⟩
    exact q _ _ rfl
theorem h_need_alike : ∀ ds EF PF, f_need_alike ds EF PF → ds.length = 2 ∧ bodyD 3 b_need_alike ds EF PF := by
  rintro ds EF PF ⟨⟨b, ss, n⟩, rfl, p, q⟩
  refine ⟨rfl, ?_⟩
  unfold b_need_alike
  (try simp only [wC_ap, wSetI_ap, wExpr_ap, wRet_ap, wRetN_ap, wRet0_ap, wIf_ap, wFor_ap, wWhile_ap, wBreak_ap, wCont_ap, wNever_ap, wPick_ap, wCallL_ap, wOp_ap, wIxO_ap, wNoPart_ap, wPart_ap, wSl_ap, wUn_ap, wTest_ap, wChain_ap, wTru_ap, wNotT_ap, wAndT_ap, wOrT_ap, wAnd_ap, wOr_ap, wNot_ap, wIfE_ap, wNil_ap, wCons_ap, wTup_ap, wLst_ap, wCall_ap, wCall0_ap, wCallIo_ap, wYes_ap, wGn_ap, wSr_ap, wEn_ap, wZp_ap, wRg1_ap, wRg2_ap, wLc_ap, wMeth_ap, wMeth0_ap, wNext_ap, wSeq_ap, wAsg_ap, wSet_ap, wV_ap, wPar_ap, par2_ap, wGnil_ap, wGcons_ap, wGtup_ap, sl_z, sl_s, set_z, set_s, wipe_z, wipe_s, rest_z, rest_s, oAdd_i, oAdd_t, oAdd_l, oAdd_s, oSub_i, oMul_i, oMul_t, oII_i, oII0_i, oIx_l, oIx_t, oIx_f, oIsN_n, oNotN_n, oLen_l, oLen_t, oLen_f, oInt_i, oInt_b, oI1_i, oNeg_i, oList_l, oList_t, oTuple_l, oTuple_t, oBs_l, oSl_l, oSl_t, oIsi_ap, oIsi2_ap, tyD_n, tyD_b, tyD_i, tyD_s, tyD_t, tyD_l, tyD_f, truD_n, truD_b, truD_i, truD_t, truD_l, asB_b, asI_i, asL_l, isL_l, isL_t, isL_i, isL_b, isL_n, itD_l, itD_t, itD_f, fApp_ap, fExt_ap, ex_some, onS_ap, ite_t, ite_f, bodyD_ap, ioD_c, start_ap, isi_int_NoneType, isi_int_bool, isi_int_int, isi_int_str, isi_int_tuple, isi_int_list, isi_int_dict, isi_bool_NoneType, isi_bool_bool, isi_bool_int, isi_bool_str, isi_bool_tuple, isi_bool_list, isi_bool_dict, isi_str_NoneType, isi_str_bool, isi_str_int, isi_str_str, isi_str_tuple, isi_str_list, isi_str_dict, isi_list_NoneType, isi_list_bool, isi_list_int, isi_list_str, isi_list_tuple, isi_list_list, isi_list_dict, isi_tuple_NoneType, isi_tuple_bool, isi_tuple_int, isi_tuple_str, isi_tuple_tuple, isi_tuple_list, isi_tuple_dict, isi_dict_NoneType, isi_dict_bool, isi_dict_int, isi_dict_str, isi_dict_tuple, isi_dict_list, isi_dict_dict, List.map_cons, List.map_nil, List.cons_append, List.nil_append, List.length_cons, List.length_nil, List.replicate_succ, List.replicate_zero, Nat.reduceAdd, Nat.reduceSub, Nat.zero_add, true_and, and_true, Bool.not_true, Bool.not_false, Bool.true_or, Bool.or_true, Bool.false_or, Bool.or_false, if_true, if_false, Bool.false_eq_true, itD_sq])
  refine for_inv (fun _ ε => ∃ o, ε = [some (sq b (ss.map tI)), some (.int n), o]) ?_ ?_ ⟨none, rfl⟩
  · rintro pre d r ε e ⟨o, rfl⟩ N hN
    obtain ⟨s, hs, rfl⟩ := mid e
    (try simp only [wC_ap, wSetI_ap, wExpr_ap, wRet_ap, wRetN_ap, wRet0_ap, wIf_ap, wFor_ap, wWhile_ap, wBreak_ap, wCont_ap, wNever_ap, wPick_ap, wCallL_ap, wOp_ap, wIxO_ap, wNoPart_ap, wPart_ap, wSl_ap, wUn_ap, wTest_ap, wChain_ap, wTru_ap, wNotT_ap, wAndT_ap, wOrT_ap, wAnd_ap, wOr_ap, wNot_ap, wIfE_ap, wNil_ap, wCons_ap, wTup_ap, wLst_ap, wCall_ap, wCall0_ap, wCallIo_ap, wYes_ap, wGn_ap, wSr_ap, wEn_ap, wZp_ap, wRg1_ap, wRg2_ap, wLc_ap, wMeth_ap, wMeth0_ap, wNext_ap, wSeq_ap, wAsg_ap, wSet_ap, wV_ap, wPar_ap, par2_ap, wGnil_ap, wGcons_ap, wGtup_ap, sl_z, sl_s, set_z, set_s, wipe_z, wipe_s, rest_z, rest_s, oAdd_i, oAdd_t, oAdd_l, oAdd_s, oSub_i, oMul_i, oMul_t, oII_i, oII0_i, oIx_l, oIx_t, oIx_f, oIsN_n, oNotN_n, oLen_l, oLen_t, oLen_f, oInt_i, oInt_b, oI1_i, oNeg_i, oList_l, oList_t, oTuple_l, oTuple_t, oBs_l, oSl_l, oSl_t, oIsi_ap, oIsi2_ap, tyD_n, tyD_b, tyD_i, tyD_s, tyD_t, tyD_l, tyD_f, truD_n, truD_b, truD_i, truD_t, truD_l, asB_b, asI_i, asL_l, isL_l, isL_t, isL_i, isL_b, isL_n, itD_l, itD_t, itD_f, fApp_ap, fExt_ap, ex_some, onS_ap, ite_t, ite_f, bodyD_ap, ioD_c, start_ap, isi_int_NoneType, isi_int_bool, isi_int_int, isi_int_str, isi_int_tuple, isi_int_list, isi_int_dict, isi_bool_NoneType, isi_bool_bool, isi_bool_int, isi_bool_str, isi_bool_tuple, isi_bool_list, isi_bool_dict, isi_str_NoneType, isi_str_bool, isi_str_int, isi_str_str, isi_str_tuple, isi_str_list, isi_str_dict, isi_list_NoneType, isi_list_bool, isi_list_int, isi_list_str, isi_list_tuple, isi_list_list, isi_list_dict, isi_tuple_NoneType, isi_tuple_bool, isi_tuple_int, isi_tuple_str, isi_tuple_tuple, isi_tuple_list, isi_tuple_dict, isi_dict_NoneType, isi_dict_bool, isi_dict_int, isi_dict_str, isi_dict_tuple, isi_dict_list, isi_dict_dict, List.map_cons, List.map_nil, List.cons_append, List.nil_append, List.length_cons, List.length_nil, List.replicate_succ, List.replicate_zero, Nat.reduceAdd, Nat.reduceSub, Nat.zero_add, true_and, and_true, Bool.not_true, Bool.not_false, Bool.true_or, Bool.or_true, Bool.false_or, Bool.or_false, if_true, if_false, Bool.false_eq_true, oLen_tI])
    have e : s.length = n := p s hs
    refine ⟨okD_int _ _, okD_int _ _, ?_⟩
    rw [e, eqD_int_self]
    (try simp only [wC_ap, wSetI_ap, wExpr_ap, wRet_ap, wRetN_ap, wRet0_ap, wIf_ap, wFor_ap, wWhile_ap, wBreak_ap, wCont_ap, wNever_ap, wPick_ap, wCallL_ap, wOp_ap, wIxO_ap, wNoPart_ap, wPart_ap, wSl_ap, wUn_ap, wTest_ap, wChain_ap, wTru_ap, wNotT_ap, wAndT_ap, wOrT_ap, wAnd_ap, wOr_ap, wNot_ap, wIfE_ap, wNil_ap, wCons_ap, wTup_ap, wLst_ap, wCall_ap, wCall0_ap, wCallIo_ap, wYes_ap, wGn_ap, wSr_ap, wEn_ap, wZp_ap, wRg1_ap, wRg2_ap, wLc_ap, wMeth_ap, wMeth0_ap, wNext_ap, wSeq_ap, wAsg_ap, wSet_ap, wV_ap, wPar_ap, par2_ap, wGnil_ap, wGcons_ap, wGtup_ap, sl_z, sl_s, set_z, set_s, wipe_z, wipe_s, rest_z, rest_s, oAdd_i, oAdd_t, oAdd_l, oAdd_s, oSub_i, oMul_i, oMul_t, oII_i, oII0_i, oIx_l, oIx_t, oIx_f, oIsN_n, oNotN_n, oLen_l, oLen_t, oLen_f, oInt_i, oInt_b, oI1_i, oNeg_i, oList_l, oList_t, oTuple_l, oTuple_t, oBs_l, oSl_l, oSl_t, oIsi_ap, oIsi2_ap, tyD_n, tyD_b, tyD_i, tyD_s, tyD_t, tyD_l, tyD_f, truD_n, truD_b, truD_i, truD_t, truD_l, asB_b, asI_i, asL_l, isL_l, isL_t, isL_i, isL_b, isL_n, itD_l, itD_t, itD_f, fApp_ap, fExt_ap, ex_some, onS_ap, ite_t, ite_f, bodyD_ap, ioD_c, start_ap, isi_int_NoneType, isi_int_bool, isi_int_int, isi_int_str, isi_int_tuple, isi_int_list, isi_int_dict, isi_bool_NoneType, isi_bool_bool, isi_bool_int, isi_bool_str, isi_bool_tuple, isi_bool_list, isi_bool_dict, isi_str_NoneType, isi_str_bool, isi_str_int, isi_str_str, isi_str_tuple, isi_str_list, isi_str_dict, isi_list_NoneType, isi_list_bool, isi_list_int, isi_list_str, isi_list_tuple, isi_list_list, isi_list_dict, isi_tuple_NoneType, isi_tuple_bool, isi_tuple_int, isi_tuple_str, isi_tuple_tuple, isi_tuple_list, isi_tuple_dict, isi_dict_NoneType, isi_dict_bool, isi_dict_int, isi_dict_str, isi_dict_tuple, isi_dict_list, isi_dict_dict, List.map_cons, List.map_nil, List.cons_append, List.nil_append, List.length_cons, List.length_nil, List.replicate_succ, List.replicate_zero, Nat.reduceAdd, Nat.reduceSub, Nat.zero_add, true_and, and_true, Bool.not_true, Bool.not_false, Bool.true_or, Bool.or_true, Bool.false_or, Bool.or_false, if_true, if_false, Bool.false_eq_true])
    exact hN _ ⟨_, rfl⟩
  · rintro ε ⟨o, rfl⟩
    exact q _ _ rfl
theorem h_need_cast : ∀ ds EF PF, f_need_cast ds EF PF → ds.length = 2 ∧ bodyD 2 b_need_cast ds EF PF := by
  rintro ds EF PF ⟨⟨b, ss, n, at_⟩, rfl, p, q⟩
  refine ⟨rfl, ?_⟩
  have p : CastOk ss n at_ := p
  cases ss with
  | nil => exact absurd rfl p.ne
  | cons s r =>
    have hs : s.length = n + 1 := p.len s (List.mem_cons_self ..)
    have hat := p.at_
    have h10 := p.n10
    unfold b_need_cast
    (try simp only [wC_ap, wSetI_ap, wExpr_ap, wRet_ap, wRetN_ap, wRet0_ap, wIf_ap, wFor_ap, wWhile_ap, wBreak_ap, wCont_ap, wNever_ap, wPick_ap, wCallL_ap, wOp_ap, wIxO_ap, wNoPart_ap, wPart_ap, wSl_ap, wUn_ap, wTest_ap, wChain_ap, wTru_ap, wNotT_ap, wAndT_ap, wOrT_ap, wAnd_ap, wOr_ap, wNot_ap, wIfE_ap, wNil_ap, wCons_ap, wTup_ap, wLst_ap, wCall_ap, wCall0_ap, wCallIo_ap, wYes_ap, wGn_ap, wSr_ap, wEn_ap, wZp_ap, wRg1_ap, wRg2_ap, wLc_ap, wMeth_ap, wMeth0_ap, wNext_ap, wSeq_ap, wAsg_ap, wSet_ap, wV_ap, wPar_ap, par2_ap, wGnil_ap, wGcons_ap, wGtup_ap, sl_z, sl_s, set_z, set_s, wipe_z, wipe_s, rest_z, rest_s, oAdd_i, oAdd_t, oAdd_l, oAdd_s, oSub_i, oMul_i, oMul_t, oII_i, oII0_i, oIx_l, oIx_t, oIx_f, oIsN_n, oNotN_n, oLen_l, oLen_t, oLen_f, oInt_i, oInt_b, oI1_i, oNeg_i, oList_l, oList_t, oTuple_l, oTuple_t, oBs_l, oSl_l, oSl_t, oIsi_ap, oIsi2_ap, tyD_n, tyD_b, tyD_i, tyD_s, tyD_t, tyD_l, tyD_f, truD_n, truD_b, truD_i, truD_t, truD_l, asB_b, asI_i, asL_l, isL_l, isL_t, isL_i, isL_b, isL_n, itD_l, itD_t, itD_f, fApp_ap, fExt_ap, ex_some, onS_ap, ite_t, ite_f, bodyD_ap, ioD_c, start_ap, isi_int_NoneType, isi_int_bool, isi_int_int, isi_int_str, isi_int_tuple, isi_int_list, isi_int_dict, isi_bool_NoneType, isi_bool_bool, isi_bool_int, isi_bool_str, isi_bool_tuple, isi_bool_list, isi_bool_dict, isi_str_NoneType, isi_str_bool, isi_str_int, isi_str_str, isi_str_tuple, isi_str_list, isi_str_dict, isi_list_NoneType, isi_list_bool, isi_list_int, isi_list_str, isi_list_tuple, isi_list_list, isi_list_dict, isi_tuple_NoneType, isi_tuple_bool, isi_tuple_int, isi_tuple_str, isi_tuple_tuple, isi_tuple_list, isi_tuple_dict, isi_dict_NoneType, isi_dict_bool, isi_dict_int, isi_dict_str, isi_dict_tuple, isi_dict_list, isi_dict_dict, List.map_cons, List.map_nil, List.cons_append, List.nil_append, List.length_cons, List.length_nil, List.replicate_succ, List.replicate_zero, Nat.reduceAdd, Nat.reduceSub, Nat.zero_add, true_and, and_true, Bool.not_true, Bool.not_false, Bool.true_or, Bool.or_true, Bool.false_or, Bool.or_false, if_true, if_false, Bool.false_eq_true])
    refine ⟨(b, s :: r), rfl, (fun t ht => ⟨by have := p.len t ht; omega, by have := p.len t ht; omega⟩), ?_⟩
    rintro r' c' rfl
    (try simp only [wC_ap, wSetI_ap, wExpr_ap, wRet_ap, wRetN_ap, wRet0_ap, wIf_ap, wFor_ap, wWhile_ap, wBreak_ap, wCont_ap, wNever_ap, wPick_ap, wCallL_ap, wOp_ap, wIxO_ap, wNoPart_ap, wPart_ap, wSl_ap, wUn_ap, wTest_ap, wChain_ap, wTru_ap, wNotT_ap, wAndT_ap, wOrT_ap, wAnd_ap, wOr_ap, wNot_ap, wIfE_ap, wNil_ap, wCons_ap, wTup_ap, wLst_ap, wCall_ap, wCall0_ap, wCallIo_ap, wYes_ap, wGn_ap, wSr_ap, wEn_ap, wZp_ap, wRg1_ap, wRg2_ap, wLc_ap, wMeth_ap, wMeth0_ap, wNext_ap, wSeq_ap, wAsg_ap, wSet_ap, wV_ap, wPar_ap, par2_ap, wGnil_ap, wGcons_ap, wGtup_ap, sl_z, sl_s, set_z, set_s, wipe_z, wipe_s, rest_z, rest_s, oAdd_i, oAdd_t, oAdd_l, oAdd_s, oSub_i, oMul_i, oMul_t, oII_i, oII0_i, oIx_l, oIx_t, oIx_f, oIsN_n, oNotN_n, oLen_l, oLen_t, oLen_f, oInt_i, oInt_b, oI1_i, oNeg_i, oList_l, oList_t, oTuple_l, oTuple_t, oBs_l, oSl_l, oSl_t, oIsi_ap, oIsi2_ap, tyD_n, tyD_b, tyD_i, tyD_s, tyD_t, tyD_l, tyD_f, truD_n, truD_b, truD_i, truD_t, truD_l, asB_b, asI_i, asL_l, isL_l, isL_t, isL_i, isL_b, isL_n, itD_l, itD_t, itD_f, fApp_ap, fExt_ap, ex_some, onS_ap, ite_t, ite_f, bodyD_ap, ioD_c, start_ap, isi_int_NoneType, isi_int_bool, isi_int_int, isi_int_str, isi_int_tuple, isi_int_list, isi_int_dict, isi_bool_NoneType, isi_bool_bool, isi_bool_int, isi_bool_str, isi_bool_tuple, isi_bool_list, isi_bool_dict, isi_str_NoneType, isi_str_bool, isi_str_int, isi_str_str, isi_str_tuple, isi_str_list, isi_str_dict, isi_list_NoneType, isi_list_bool, isi_list_int, isi_list_str, isi_list_tuple, isi_list_list, isi_list_dict, isi_tuple_NoneType, isi_tuple_bool, isi_tuple_int, isi_tuple_str, isi_tuple_tuple, isi_tuple_list, isi_tuple_dict, isi_dict_NoneType, isi_dict_bool, isi_dict_int, isi_dict_str, isi_dict_tuple, isi_dict_list, isi_dict_dict, List.map_cons, List.map_nil, List.cons_append, List.nil_append, List.length_cons, List.length_nil, List.replicate_succ, List.replicate_zero, Nat.reduceAdd, Nat.reduceSub, Nat.zero_add, true_and, and_true, Bool.not_true, Bool.not_false, Bool.true_or, Bool.or_true, Bool.false_or, Bool.or_false, if_true, if_false, Bool.false_eq_true, oLen_sq])
    refine ⟨okD_int _ _, okD_int _ _, ?_⟩
    rw [eqD_int_ne (by omega)]
    (try simp only [wC_ap, wSetI_ap, wExpr_ap, wRet_ap, wRetN_ap, wRet0_ap, wIf_ap, wFor_ap, wWhile_ap, wBreak_ap, wCont_ap, wNever_ap, wPick_ap, wCallL_ap, wOp_ap, wIxO_ap, wNoPart_ap, wPart_ap, wSl_ap, wUn_ap, wTest_ap, wChain_ap, wTru_ap, wNotT_ap, wAndT_ap, wOrT_ap, wAnd_ap, wOr_ap, wNot_ap, wIfE_ap, wNil_ap, wCons_ap, wTup_ap, wLst_ap, wCall_ap, wCall0_ap, wCallIo_ap, wYes_ap, wGn_ap, wSr_ap, wEn_ap, wZp_ap, wRg1_ap, wRg2_ap, wLc_ap, wMeth_ap, wMeth0_ap, wNext_ap, wSeq_ap, wAsg_ap, wSet_ap, wV_ap, wPar_ap, par2_ap, wGnil_ap, wGcons_ap, wGtup_ap, sl_z, sl_s, set_z, set_s, wipe_z, wipe_s, rest_z, rest_s, oAdd_i, oAdd_t, oAdd_l, oAdd_s, oSub_i, oMul_i, oMul_t, oII_i, oII0_i, oIx_l, oIx_t, oIx_f, oIsN_n, oNotN_n, oLen_l, oLen_t, oLen_f, oInt_i, oInt_b, oI1_i, oNeg_i, oList_l, oList_t, oTuple_l, oTuple_t, oBs_l, oSl_l, oSl_t, oIsi_ap, oIsi2_ap, tyD_n, tyD_b, tyD_i, tyD_s, tyD_t, tyD_l, tyD_f, truD_n, truD_b, truD_i, truD_t, truD_l, asB_b, asI_i, asL_l, isL_l, isL_t, isL_i, isL_b, isL_n, itD_l, itD_t, itD_f, fApp_ap, fExt_ap, ex_some, onS_ap, ite_t, ite_f, bodyD_ap, ioD_c, start_ap, isi_int_NoneType, isi_int_bool, isi_int_int, isi_int_str, isi_int_tuple, isi_int_list, isi_int_dict, isi_bool_NoneType, isi_bool_bool, isi_bool_int, isi_bool_str, isi_bool_tuple, isi_bool_list, isi_bool_dict, isi_str_NoneType, isi_str_bool, isi_str_int, isi_str_str, isi_str_tuple, isi_str_list, isi_str_dict, isi_list_NoneType, isi_list_bool, isi_list_int, isi_list_str, isi_list_tuple, isi_list_list, isi_list_dict, isi_tuple_NoneType, isi_tuple_bool, isi_tuple_int, isi_tuple_str, isi_tuple_tuple, isi_tuple_list, isi_tuple_dict, isi_dict_NoneType, isi_dict_bool, isi_dict_int, isi_dict_str, isi_dict_tuple, isi_dict_list, isi_dict_dict, List.map_cons, List.map_nil, List.cons_append, List.nil_append, List.length_cons, List.length_nil, List.replicate_succ, List.replicate_zero, Nat.reduceAdd, Nat.reduceSub, Nat.zero_add, true_and, and_true, Bool.not_true, Bool.not_false, Bool.true_or, Bool.or_true, Bool.false_or, Bool.or_false, if_true, if_false, Bool.false_eq_true, oIx_sq, atI_z, oLen_tI])
    refine ⟨(b, s :: r, n + 1), ?_, (fun t ht => p.len t ht), ?_⟩
    · rw [hs]; rfl
    rintro r' c' rfl
    (try simp only [wC_ap, wSetI_ap, wExpr_ap, wRet_ap, wRetN_ap, wRet0_ap, wIf_ap, wFor_ap, wWhile_ap, wBreak_ap, wCont_ap, wNever_ap, wPick_ap, wCallL_ap, wOp_ap, wIxO_ap, wNoPart_ap, wPart_ap, wSl_ap, wUn_ap, wTest_ap, wChain_ap, wTru_ap, wNotT_ap, wAndT_ap, wOrT_ap, wAnd_ap, wOr_ap, wNot_ap, wIfE_ap, wNil_ap, wCons_ap, wTup_ap, wLst_ap, wCall_ap, wCall0_ap, wCallIo_ap, wYes_ap, wGn_ap, wSr_ap, wEn_ap, wZp_ap, wRg1_ap, wRg2_ap, wLc_ap, wMeth_ap, wMeth0_ap, wNext_ap, wSeq_ap, wAsg_ap, wSet_ap, wV_ap, wPar_ap, par2_ap, wGnil_ap, wGcons_ap, wGtup_ap, sl_z, sl_s, set_z, set_s, wipe_z, wipe_s, rest_z, rest_s, oAdd_i, oAdd_t, oAdd_l, oAdd_s, oSub_i, oMul_i, oMul_t, oII_i, oII0_i, oIx_l, oIx_t, oIx_f, oIsN_n, oNotN_n, oLen_l, oLen_t, oLen_f, oInt_i, oInt_b, oI1_i, oNeg_i, oList_l, oList_t, oTuple_l, oTuple_t, oBs_l, oSl_l, oSl_t, oIsi_ap, oIsi2_ap, tyD_n, tyD_b, tyD_i, tyD_s, tyD_t, tyD_l, tyD_f, truD_n, truD_b, truD_i, truD_t, truD_l, asB_b, asI_i, asL_l, isL_l, isL_t, isL_i, isL_b, isL_n, itD_l, itD_t, itD_f, fApp_ap, fExt_ap, ex_some, onS_ap, ite_t, ite_f, bodyD_ap, ioD_c, start_ap, isi_int_NoneType, isi_int_bool, isi_int_int, isi_int_str, isi_int_tuple, isi_int_list, isi_int_dict, isi_bool_NoneType, isi_bool_bool, isi_bool_int, isi_bool_str, isi_bool_tuple, isi_bool_list, isi_bool_dict, isi_str_NoneType, isi_str_bool, isi_str_int, isi_str_str, isi_str_tuple, isi_str_list, isi_str_dict, isi_list_NoneType, isi_list_bool, isi_list_int, isi_list_str, isi_list_tuple, isi_list_list, isi_list_dict, isi_tuple_NoneType, isi_tuple_bool, isi_tuple_int, isi_tuple_str, isi_tuple_tuple, isi_tuple_list, isi_tuple_dict, isi_dict_NoneType, isi_dict_bool, isi_dict_int, isi_dict_str, isi_dict_tuple, isi_dict_list, isi_dict_dict, List.map_cons, List.map_nil, List.cons_append, List.nil_append, List.length_cons, List.length_nil, List.replicate_succ, List.replicate_zero, Nat.reduceAdd, Nat.reduceSub, Nat.zero_add, true_and, and_true, Bool.not_true, Bool.not_false, Bool.true_or, Bool.or_true, Bool.false_or, Bool.or_false, if_true, if_false, Bool.false_eq_true, oIx_sq, atI_z, oLen_tI])
    refine ⟨((at_ : Int), 0, (s.length : Int) - 2), rfl, trivial, ?_⟩
    rintro r' c' rfl
    have h1 : decide ((0 : Int) ≤ (at_ : Int)) = true := decide_eq_true (by omega)
    have h2 : decide ((at_ : Int) ≤ (s.length : Int) - 2) = true := decide_eq_true (by omega)
    (try simp only [wC_ap, wSetI_ap, wExpr_ap, wRet_ap, wRetN_ap, wRet0_ap, wIf_ap, wFor_ap, wWhile_ap, wBreak_ap, wCont_ap, wNever_ap, wPick_ap, wCallL_ap, wOp_ap, wIxO_ap, wNoPart_ap, wPart_ap, wSl_ap, wUn_ap, wTest_ap, wChain_ap, wTru_ap, wNotT_ap, wAndT_ap, wOrT_ap, wAnd_ap, wOr_ap, wNot_ap, wIfE_ap, wNil_ap, wCons_ap, wTup_ap, wLst_ap, wCall_ap, wCall0_ap, wCallIo_ap, wYes_ap, wGn_ap, wSr_ap, wEn_ap, wZp_ap, wRg1_ap, wRg2_ap, wLc_ap, wMeth_ap, wMeth0_ap, wNext_ap, wSeq_ap, wAsg_ap, wSet_ap, wV_ap, wPar_ap, par2_ap, wGnil_ap, wGcons_ap, wGtup_ap, sl_z, sl_s, set_z, set_s, wipe_z, wipe_s, rest_z, rest_s, oAdd_i, oAdd_t, oAdd_l, oAdd_s, oSub_i, oMul_i, oMul_t, oII_i, oII0_i, oIx_l, oIx_t, oIx_f, oIsN_n, oNotN_n, oLen_l, oLen_t, oLen_f, oInt_i, oInt_b, oI1_i, oNeg_i, oList_l, oList_t, oTuple_l, oTuple_t, oBs_l, oSl_l, oSl_t, oIsi_ap, oIsi2_ap, tyD_n, tyD_b, tyD_i, tyD_s, tyD_t, tyD_l, tyD_f, truD_n, truD_b, truD_i, truD_t, truD_l, asB_b, asI_i, asL_l, isL_l, isL_t, isL_i, isL_b, isL_n, itD_l, itD_t, itD_f, fApp_ap, fExt_ap, ex_some, onS_ap, ite_t, ite_f, bodyD_ap, ioD_c, start_ap, isi_int_NoneType, isi_int_bool, isi_int_int, isi_int_str, isi_int_tuple, isi_int_list, isi_int_dict, isi_bool_NoneType, isi_bool_bool, isi_bool_int, isi_bool_str, isi_bool_tuple, isi_bool_list, isi_bool_dict, isi_str_NoneType, isi_str_bool, isi_str_int, isi_str_str, isi_str_tuple, isi_str_list, isi_str_dict, isi_list_NoneType, isi_list_bool, isi_list_int, isi_list_str, isi_list_tuple, isi_list_list, isi_list_dict, isi_tuple_NoneType, isi_tuple_bool, isi_tuple_int, isi_tuple_str, isi_tuple_tuple, isi_tuple_list, isi_tuple_dict, isi_dict_NoneType, isi_dict_bool, isi_dict_int, isi_dict_str, isi_dict_tuple, isi_dict_list, isi_dict_dict, List.map_cons, List.map_nil, List.cons_append, List.nil_append, List.length_cons, List.length_nil, List.replicate_succ, List.replicate_zero, Nat.reduceAdd, Nat.reduceSub, Nat.zero_add, true_and, and_true, Bool.not_true, Bool.not_false, Bool.true_or, Bool.or_true, Bool.false_or, Bool.or_false, if_true, if_false, Bool.false_eq_true, h1, h2])
    exact q _ _ rfl
theorem h_always_holds : ∀ ds EF PF, f_always_holds ds EF PF → ds.length = 1 ∧ bodyD 1 b_always_holds ds EF PF := by
  rintro ds EF PF ⟨ns, rfl, ⟨p1, p2⟩, q⟩
  refine ⟨rfl, ?_⟩
  unfold b_always_holds
  (try simp only [wC_ap, wSetI_ap, wExpr_ap, wRet_ap, wRetN_ap, wRet0_ap, wIf_ap, wFor_ap, wWhile_ap, wBreak_ap, wCont_ap, wNever_ap, wPick_ap, wCallL_ap, wOp_ap, wIxO_ap, wNoPart_ap, wPart_ap, wSl_ap, wUn_ap, wTest_ap, wChain_ap, wTru_ap, wNotT_ap, wAndT_ap, wOrT_ap, wAnd_ap, wOr_ap, wNot_ap, wIfE_ap, wNil_ap, wCons_ap, wTup_ap, wLst_ap, wCall_ap, wCall0_ap, wCallIo_ap, wYes_ap, wGn_ap, wSr_ap, wEn_ap, wZp_ap, wRg1_ap, wRg2_ap, wLc_ap, wMeth_ap, wMeth0_ap, wNext_ap, wSeq_ap, wAsg_ap, wSet_ap, wV_ap, wPar_ap, par2_ap, wGnil_ap, wGcons_ap, wGtup_ap, sl_z, sl_s, set_z, set_s, wipe_z, wipe_s, rest_z, rest_s, oAdd_i, oAdd_t, oAdd_l, oAdd_s, oSub_i, oMul_i, oMul_t, oII_i, oII0_i, oIx_l, oIx_t, oIx_f, oIsN_n, oNotN_n, oLen_l, oLen_t, oLen_f, oInt_i, oInt_b, oI1_i, oNeg_i, oList_l, oList_t, oTuple_l, oTuple_t, oBs_l, oSl_l, oSl_t, oIsi_ap, oIsi2_ap, tyD_n, tyD_b, tyD_i, tyD_s, tyD_t, tyD_l, tyD_f, truD_n, truD_b, truD_i, truD_t, truD_l, asB_b, asI_i, asL_l, isL_l, isL_t, isL_i, isL_b, isL_n, itD_l, itD_t, itD_f, fApp_ap, fExt_ap, ex_some, onS_ap, ite_t, ite_f, bodyD_ap, ioD_c, start_ap, isi_int_NoneType, isi_int_bool, isi_int_int, isi_int_str, isi_int_tuple, isi_int_list, isi_int_dict, isi_bool_NoneType, isi_bool_bool, isi_bool_int, isi_bool_str, isi_bool_tuple, isi_bool_list, isi_bool_dict, isi_str_NoneType, isi_str_bool, isi_str_int, isi_str_str, isi_str_tuple, isi_str_list, isi_str_dict, isi_list_NoneType, isi_list_bool, isi_list_int, isi_list_str, isi_list_tuple, isi_list_list, isi_list_dict, isi_tuple_NoneType, isi_tuple_bool, isi_tuple_int, isi_tuple_str, isi_tuple_tuple, isi_tuple_list, isi_tuple_dict, isi_dict_NoneType, isi_dict_bool, isi_dict_int, isi_dict_str, isi_dict_tuple, isi_dict_list, isi_dict_dict, List.map_cons, List.map_nil, List.cons_append, List.nil_append, List.length_cons, List.length_nil, List.replicate_succ, List.replicate_zero, Nat.reduceAdd, Nat.reduceSub, Nat.zero_add, true_and, and_true, Bool.not_true, Bool.not_false, Bool.true_or, Bool.or_true, Bool.false_or, Bool.or_false, if_true, if_false, Bool.false_eq_true, oLen_tI])
  have hr : (List.replicate (ns.length : Int).toNat [D.int 0]).flatten = (List.replicate ns.length (0 : Int)).map D.int := by
    rw [Int.toNat_natCast]
    generalize ns.length = k
    induction k with
    | zero => rfl
    | succ k ih => rw [List.replicate_succ, List.replicate_succ, List.flatten_cons, ih]; rfl
  rw [hr]
  refine ⟨small_z (by decide), by simp, by omega, by omega, by decide, okD_tI _ _, okD_tI 59 _, q _ _ ?_⟩
  have e : eqD (tI ns) (.tup ((List.replicate ns.length (0 : Int)).map D.int)) = isZ ns := by
    show eqD (tI ns) (tI _) = _
    rw [eqD_tI]
    unfold isZ
    rw [Bool.eq_iff_iff]
    simp [List.eq_replicate_iff]
  rw [e]
/-! pairs_of, pair_sum -/
def facD (at_ : Nat) : D → Int
  | .tup ds => match ds[at_]? with
    | some (.int z) => z
    | _ => 0
  | _ => 0
theorem facD_tI (s : List Int) (i : Nat) : facD i (tI s) = facAt s i := by
  unfold facD tI facAt
  simp only [List.getElem?_map]
  cases h : s[i]? with
  | none => simp [h]
  | some z => simp [h]
theorem en_cons (i : Nat) (d : D) (r : List D) : enD i (d :: r) = .tup [.int i, d] :: enD (i + 1) r := rfl
theorem mem_en {ss : List (List Int)} {d : D} : ∀ {i : Nat}, d ∈ enD i (ss.map tI) → ∃ (j : Nat) (s : List Int), s ∈ ss ∧ d = .tup [.int j, tI s] := by
  induction ss with
  | nil => intro i h; cases h
  | cons s r ih =>
    intro i h
    rw [List.map_cons, en_cons] at h
    rcases List.mem_cons.mp h with h | h
    · exact ⟨i, s, List.mem_cons_self .., h⟩
    · obtain ⟨j, t, ht, e⟩ := ih h
      exact ⟨j, t, List.mem_cons_of_mem _ ht, e⟩
theorem en_lows (at_ : Nat) : ∀ (i : Nat) (ss : List (List Int)), (enD i (ss.map tI)).filterMap (fun d => match d with | .tup [p, t] => if facD at_ t < 0 then some p else none | _ => none) = (lowsOf at_ i ss).map fun j => .int (j : Nat)
  | _, [] => rfl
  | i, s :: r => by
    rw [List.map_cons, en_cons, List.filterMap_cons, en_lows at_ (i + 1) r, show lowsOf at_ i (s :: r) = if facAt s at_ < 0 then i :: lowsOf at_ (i + 1) r else lowsOf at_ (i + 1) r from rfl]
    simp only [facD_tI]
    by_cases h : facAt s at_ < 0
    · simp [h]
    · simp [h]
theorem en_highs (at_ : Nat) : ∀ (i : Nat) (ss : List (List Int)), (enD i (ss.map tI)).filterMap (fun d => match d with | .tup [p, t] => if 0 < facD at_ t then some p else none | _ => none) = (highsOf at_ i ss).map fun j => .int (j : Nat)
  | _, [] => rfl
  | i, s :: r => by
    rw [List.map_cons, en_cons, List.filterMap_cons, en_highs at_ (i + 1) r, show highsOf at_ i (s :: r) = if 0 < facAt s at_ then i :: highsOf at_ (i + 1) r else highsOf at_ (i + 1) r from rfl]
    simp only [facD_tI]
    by_cases h : 0 < facAt s at_
    · simp [h]
    · simp [h]
theorem lows_len (at_ : Nat) : ∀ (i : Nat) (ss : List (List Int)), (lowsOf at_ i ss).length ≤ ss.length
  | _, [] => Nat.le_refl _
  | i, s :: r => by
    have := lows_len at_ (i + 1) r
    unfold lowsOf
    split <;> simp <;> omega
theorem highs_len (at_ : Nat) : ∀ (i : Nat) (ss : List (List Int)), (highsOf at_ i ss).length ≤ ss.length
  | _, [] => Nat.le_refl _
  | i, s :: r => by
    have := highs_len at_ (i + 1) r
    unfold highsOf
    split <;> simp <;> omega
theorem h_pairs_of : ∀ ds EF PF, f_pairs_of ds EF PF → ds.length = 2 ∧ bodyD 9 b_pairs_of ds EF PF := by
  rintro ds EF PF ⟨⟨b, ss, n, at_⟩, rfl, p, q⟩
  refine ⟨rfl, ?_⟩
  have p : CastOk ss n at_ := p
  have hat := p.at_
  have hfew := p.few
  have hen : (enD 0 (ss.map tI)).length ≤ sizeLine := by rw [enD_len, List.length_map]; exact small_z (by omega)
  unfold b_pairs_of
  (try simp only [wC_ap, wSetI_ap, wExpr_ap, wRet_ap, wRetN_ap, wRet0_ap, wIf_ap, wFor_ap, wWhile_ap, wBreak_ap, wCont_ap, wNever_ap, wPick_ap, wCallL_ap, wOp_ap, wIxO_ap, wNoPart_ap, wPart_ap, wSl_ap, wUn_ap, wTest_ap, wChain_ap, wTru_ap, wNotT_ap, wAndT_ap, wOrT_ap, wAnd_ap, wOr_ap, wNot_ap, wIfE_ap, wNil_ap, wCons_ap, wTup_ap, wLst_ap, wCall_ap, wCall0_ap, wCallIo_ap, wYes_ap, wGn_ap, wSr_ap, wEn_ap, wZp_ap, wRg1_ap, wRg2_ap, wLc_ap, wMeth_ap, wMeth0_ap, wNext_ap, wSeq_ap, wAsg_ap, wSet_ap, wV_ap, wPar_ap, par2_ap, wGnil_ap, wGcons_ap, wGtup_ap, sl_z, sl_s, set_z, set_s, wipe_z, wipe_s, rest_z, rest_s, oAdd_i, oAdd_t, oAdd_l, oAdd_s, oSub_i, oMul_i, oMul_t, oII_i, oII0_i, oIx_l, oIx_t, oIx_f, oIsN_n, oNotN_n, oLen_l, oLen_t, oLen_f, oInt_i, oInt_b, oI1_i, oNeg_i, oList_l, oList_t, oTuple_l, oTuple_t, oBs_l, oSl_l, oSl_t, oIsi_ap, oIsi2_ap, tyD_n, tyD_b, tyD_i, tyD_s, tyD_t, tyD_l, tyD_f, truD_n, truD_b, truD_i, truD_t, truD_l, asB_b, asI_i, asL_l, isL_l, isL_t, isL_i, isL_b, isL_n, itD_l, itD_t, itD_f, fApp_ap, fExt_ap, ex_some, onS_ap, ite_t, ite_f, bodyD_ap, ioD_c, start_ap, isi_int_NoneType, isi_int_bool, isi_int_int, isi_int_str, isi_int_tuple, isi_int_list, isi_int_dict, isi_bool_NoneType, isi_bool_bool, isi_bool_int, isi_bool_str, isi_bool_tuple, isi_bool_list, isi_bool_dict, isi_str_NoneType, isi_str_bool, isi_str_int, isi_str_str, isi_str_tuple, isi_str_list, isi_str_dict, isi_list_NoneType, isi_list_bool, isi_list_int, isi_list_str, isi_list_tuple, isi_list_list, isi_list_dict, isi_tuple_NoneType, isi_tuple_bool, isi_tuple_int, isi_tuple_str, isi_tuple_tuple, isi_tuple_list, isi_tuple_dict, isi_dict_NoneType, isi_dict_bool, isi_dict_int, isi_dict_str, isi_dict_tuple, isi_dict_list, isi_dict_dict, List.map_cons, List.map_nil, List.cons_append, List.nil_append, List.length_cons, List.length_nil, List.replicate_succ, List.replicate_zero, Nat.reduceAdd, Nat.reduceSub, Nat.zero_add, true_and, and_true, Bool.not_true, Bool.not_false, Bool.true_or, Bool.or_true, Bool.false_or, Bool.or_false, if_true, if_false, Bool.false_eq_true, itD_sq])
  refine ⟨hen, lc_fm (fun d => match d with | .tup [p, t] => if facD at_ t < 0 then some p else none | _ => none) ?_ ?_⟩
  · intro d hd K1 K0 h1 h0
    obtain ⟨j, s, hs, rfl⟩ := mem_en hd
    have hl := p.len s hs
    (try simp only [wC_ap, wSetI_ap, wExpr_ap, wRet_ap, wRetN_ap, wRet0_ap, wIf_ap, wFor_ap, wWhile_ap, wBreak_ap, wCont_ap, wNever_ap, wPick_ap, wCallL_ap, wOp_ap, wIxO_ap, wNoPart_ap, wPart_ap, wSl_ap, wUn_ap, wTest_ap, wChain_ap, wTru_ap, wNotT_ap, wAndT_ap, wOrT_ap, wAnd_ap, wOr_ap, wNot_ap, wIfE_ap, wNil_ap, wCons_ap, wTup_ap, wLst_ap, wCall_ap, wCall0_ap, wCallIo_ap, wYes_ap, wGn_ap, wSr_ap, wEn_ap, wZp_ap, wRg1_ap, wRg2_ap, wLc_ap, wMeth_ap, wMeth0_ap, wNext_ap, wSeq_ap, wAsg_ap, wSet_ap, wV_ap, wPar_ap, par2_ap, wGnil_ap, wGcons_ap, wGtup_ap, sl_z, sl_s, set_z, set_s, wipe_z, wipe_s, rest_z, rest_s, oAdd_i, oAdd_t, oAdd_l, oAdd_s, oSub_i, oMul_i, oMul_t, oII_i, oII0_i, oIx_l, oIx_t, oIx_f, oIsN_n, oNotN_n, oLen_l, oLen_t, oLen_f, oInt_i, oInt_b, oI1_i, oNeg_i, oList_l, oList_t, oTuple_l, oTuple_t, oBs_l, oSl_l, oSl_t, oIsi_ap, oIsi2_ap, tyD_n, tyD_b, tyD_i, tyD_s, tyD_t, tyD_l, tyD_f, truD_n, truD_b, truD_i, truD_t, truD_l, asB_b, asI_i, asL_l, isL_l, isL_t, isL_i, isL_b, isL_n, itD_l, itD_t, itD_f, fApp_ap, fExt_ap, ex_some, onS_ap, ite_t, ite_f, bodyD_ap, ioD_c, start_ap, isi_int_NoneType, isi_int_bool, isi_int_int, isi_int_str, isi_int_tuple, isi_int_list, isi_int_dict, isi_bool_NoneType, isi_bool_bool, isi_bool_int, isi_bool_str, isi_bool_tuple, isi_bool_list, isi_bool_dict, isi_str_NoneType, isi_str_bool, isi_str_int, isi_str_str, isi_str_tuple, isi_str_list, isi_str_dict, isi_list_NoneType, isi_list_bool, isi_list_int, isi_list_str, isi_list_tuple, isi_list_list, isi_list_dict, isi_tuple_NoneType, isi_tuple_bool, isi_tuple_int, isi_tuple_str, isi_tuple_tuple, isi_tuple_list, isi_tuple_dict, isi_dict_NoneType, isi_dict_bool, isi_dict_int, isi_dict_str, isi_dict_tuple, isi_dict_list, isi_dict_dict, List.map_cons, List.map_nil, List.cons_append, List.nil_append, List.length_cons, List.length_nil, List.replicate_succ, List.replicate_zero, Nat.reduceAdd, Nat.reduceSub, Nat.zero_add, true_and, and_true, Bool.not_true, Bool.not_false, Bool.true_or, Bool.or_true, Bool.false_or, Bool.or_false, if_true, if_false, Bool.false_eq_true, oIx_tI, facAt_at (show at_ < s.length by omega)])
    by_cases h : facAt s at_ < 0
    · rw [decide_eq_true h]
      (try simp only [wC_ap, wSetI_ap, wExpr_ap, wRet_ap, wRetN_ap, wRet0_ap, wIf_ap, wFor_ap, wWhile_ap, wBreak_ap, wCont_ap, wNever_ap, wPick_ap, wCallL_ap, wOp_ap, wIxO_ap, wNoPart_ap, wPart_ap, wSl_ap, wUn_ap, wTest_ap, wChain_ap, wTru_ap, wNotT_ap, wAndT_ap, wOrT_ap, wAnd_ap, wOr_ap, wNot_ap, wIfE_ap, wNil_ap, wCons_ap, wTup_ap, wLst_ap, wCall_ap, wCall0_ap, wCallIo_ap, wYes_ap, wGn_ap, wSr_ap, wEn_ap, wZp_ap, wRg1_ap, wRg2_ap, wLc_ap, wMeth_ap, wMeth0_ap, wNext_ap, wSeq_ap, wAsg_ap, wSet_ap, wV_ap, wPar_ap, par2_ap, wGnil_ap, wGcons_ap, wGtup_ap, sl_z, sl_s, set_z, set_s, wipe_z, wipe_s, rest_z, rest_s, oAdd_i, oAdd_t, oAdd_l, oAdd_s, oSub_i, oMul_i, oMul_t, oII_i, oII0_i, oIx_l, oIx_t, oIx_f, oIsN_n, oNotN_n, oLen_l, oLen_t, oLen_f, oInt_i, oInt_b, oI1_i, oNeg_i, oList_l, oList_t, oTuple_l, oTuple_t, oBs_l, oSl_l, oSl_t, oIsi_ap, oIsi2_ap, tyD_n, tyD_b, tyD_i, tyD_s, tyD_t, tyD_l, tyD_f, truD_n, truD_b, truD_i, truD_t, truD_l, asB_b, asI_i, asL_l, isL_l, isL_t, isL_i, isL_b, isL_n, itD_l, itD_t, itD_f, fApp_ap, fExt_ap, ex_some, onS_ap, ite_t, ite_f, bodyD_ap, ioD_c, start_ap, isi_int_NoneType, isi_int_bool, isi_int_int, isi_int_str, isi_int_tuple, isi_int_list, isi_int_dict, isi_bool_NoneType, isi_bool_bool, isi_bool_int, isi_bool_str, isi_bool_tuple, isi_bool_list, isi_bool_dict, isi_str_NoneType, isi_str_bool, isi_str_int, isi_str_str, isi_str_tuple, isi_str_list, isi_str_dict, isi_list_NoneType, isi_list_bool, isi_list_int, isi_list_str, isi_list_tuple, isi_list_list, isi_list_dict, isi_tuple_NoneType, isi_tuple_bool, isi_tuple_int, isi_tuple_str, isi_tuple_tuple, isi_tuple_list, isi_tuple_dict, isi_dict_NoneType, isi_dict_bool, isi_dict_int, isi_dict_str, isi_dict_tuple, isi_dict_list, isi_dict_dict, List.map_cons, List.map_nil, List.cons_append, List.nil_append, List.length_cons, List.length_nil, List.replicate_succ, List.replicate_zero, Nat.reduceAdd, Nat.reduceSub, Nat.zero_add, true_and, and_true, Bool.not_true, Bool.not_false, Bool.true_or, Bool.or_true, Bool.false_or, Bool.or_false, if_true, if_false, Bool.false_eq_true])
      exact h1 _ _ (by simp [facD_tI, h]) rfl
    · rw [decide_eq_false h]
      (try simp only [wC_ap, wSetI_ap, wExpr_ap, wRet_ap, wRetN_ap, wRet0_ap, wIf_ap, wFor_ap, wWhile_ap, wBreak_ap, wCont_ap, wNever_ap, wPick_ap, wCallL_ap, wOp_ap, wIxO_ap, wNoPart_ap, wPart_ap, wSl_ap, wUn_ap, wTest_ap, wChain_ap, wTru_ap, wNotT_ap, wAndT_ap, wOrT_ap, wAnd_ap, wOr_ap, wNot_ap, wIfE_ap, wNil_ap, wCons_ap, wTup_ap, wLst_ap, wCall_ap, wCall0_ap, wCallIo_ap, wYes_ap, wGn_ap, wSr_ap, wEn_ap, wZp_ap, wRg1_ap, wRg2_ap, wLc_ap, wMeth_ap, wMeth0_ap, wNext_ap, wSeq_ap, wAsg_ap, wSet_ap, wV_ap, wPar_ap, par2_ap, wGnil_ap, wGcons_ap, wGtup_ap, sl_z, sl_s, set_z, set_s, wipe_z, wipe_s, rest_z, rest_s, oAdd_i, oAdd_t, oAdd_l, oAdd_s, oSub_i, oMul_i, oMul_t, oII_i, oII0_i, oIx_l, oIx_t, oIx_f, oIsN_n, oNotN_n, oLen_l, oLen_t, oLen_f, oInt_i, oInt_b, oI1_i, oNeg_i, oList_l, oList_t, oTuple_l, oTuple_t, oBs_l, oSl_l, oSl_t, oIsi_ap, oIsi2_ap, tyD_n, tyD_b, tyD_i, tyD_s, tyD_t, tyD_l, tyD_f, truD_n, truD_b, truD_i, truD_t, truD_l, asB_b, asI_i, asL_l, isL_l, isL_t, isL_i, isL_b, isL_n, itD_l, itD_t, itD_f, fApp_ap, fExt_ap, ex_some, onS_ap, ite_t, ite_f, bodyD_ap, ioD_c, start_ap, isi_int_NoneType, isi_int_bool, isi_int_int, isi_int_str, isi_int_tuple, isi_int_list, isi_int_dict, isi_bool_NoneType, isi_bool_bool, isi_bool_int, isi_bool_str, isi_bool_tuple, isi_bool_list, isi_bool_dict, isi_str_NoneType, isi_str_bool, isi_str_int, isi_str_str, isi_str_tuple, isi_str_list, isi_str_dict, isi_list_NoneType, isi_list_bool, isi_list_int, isi_list_str, isi_list_tuple, isi_list_list, isi_list_dict, isi_tuple_NoneType, isi_tuple_bool, isi_tuple_int, isi_tuple_str, isi_tuple_tuple, isi_tuple_list, isi_tuple_dict, isi_dict_NoneType, isi_dict_bool, isi_dict_int, isi_dict_str, isi_dict_tuple, isi_dict_list, isi_dict_dict, List.map_cons, List.map_nil, List.cons_append, List.nil_append, List.length_cons, List.length_nil, List.replicate_succ, List.replicate_zero, Nat.reduceAdd, Nat.reduceSub, Nat.zero_add, true_and, and_true, Bool.not_true, Bool.not_false, Bool.true_or, Bool.or_true, Bool.false_or, Bool.or_false, if_true, if_false, Bool.false_eq_true])
      exact h0 _ (by simp [facD_tI, h]) rfl
  · rw [en_lows]
    (try simp only [wC_ap, wSetI_ap, wExpr_ap, wRet_ap, wRetN_ap, wRet0_ap, wIf_ap, wFor_ap, wWhile_ap, wBreak_ap, wCont_ap, wNever_ap, wPick_ap, wCallL_ap, wOp_ap, wIxO_ap, wNoPart_ap, wPart_ap, wSl_ap, wUn_ap, wTest_ap, wChain_ap, wTru_ap, wNotT_ap, wAndT_ap, wOrT_ap, wAnd_ap, wOr_ap, wNot_ap, wIfE_ap, wNil_ap, wCons_ap, wTup_ap, wLst_ap, wCall_ap, wCall0_ap, wCallIo_ap, wYes_ap, wGn_ap, wSr_ap, wEn_ap, wZp_ap, wRg1_ap, wRg2_ap, wLc_ap, wMeth_ap, wMeth0_ap, wNext_ap, wSeq_ap, wAsg_ap, wSet_ap, wV_ap, wPar_ap, par2_ap, wGnil_ap, wGcons_ap, wGtup_ap, sl_z, sl_s, set_z, set_s, wipe_z, wipe_s, rest_z, rest_s, oAdd_i, oAdd_t, oAdd_l, oAdd_s, oSub_i, oMul_i, oMul_t, oII_i, oII0_i, oIx_l, oIx_t, oIx_f, oIsN_n, oNotN_n, oLen_l, oLen_t, oLen_f, oInt_i, oInt_b, oI1_i, oNeg_i, oList_l, oList_t, oTuple_l, oTuple_t, oBs_l, oSl_l, oSl_t, oIsi_ap, oIsi2_ap, tyD_n, tyD_b, tyD_i, tyD_s, tyD_t, tyD_l, tyD_f, truD_n, truD_b, truD_i, truD_t, truD_l, asB_b, asI_i, asL_l, isL_l, isL_t, isL_i, isL_b, isL_n, itD_l, itD_t, itD_f, fApp_ap, fExt_ap, ex_some, onS_ap, ite_t, ite_f, bodyD_ap, ioD_c, start_ap, isi_int_NoneType, isi_int_bool, isi_int_int, isi_int_str, isi_int_tuple, isi_int_list, isi_int_dict, isi_bool_NoneType, isi_bool_bool, isi_bool_int, isi_bool_str, isi_bool_tuple, isi_bool_list, isi_bool_dict, isi_str_NoneType, isi_str_bool, isi_str_int, isi_str_str, isi_str_tuple, isi_str_list, isi_str_dict, isi_list_NoneType, isi_list_bool, isi_list_int, isi_list_str, isi_list_tuple, isi_list_list, isi_list_dict, isi_tuple_NoneType, isi_tuple_bool, isi_tuple_int, isi_tuple_str, isi_tuple_tuple, isi_tuple_list, isi_tuple_dict, isi_dict_NoneType, isi_dict_bool, isi_dict_int, isi_dict_str, isi_dict_tuple, isi_dict_list, isi_dict_dict, List.map_cons, List.map_nil, List.cons_append, List.nil_append, List.length_cons, List.length_nil, List.replicate_succ, List.replicate_zero, Nat.reduceAdd, Nat.reduceSub, Nat.zero_add, true_and, and_true, Bool.not_true, Bool.not_false, Bool.true_or, Bool.or_true, Bool.false_or, Bool.or_false, if_true, if_false, Bool.false_eq_true, itD_sq])
    refine ⟨hen, lc_fm (fun d => match d with | .tup [p, t] => if 0 < facD at_ t then some p else none | _ => none) ?_ ?_⟩
    · intro d hd K1 K0 h1 h0
      obtain ⟨j, s, hs, rfl⟩ := mem_en hd
      have hl := p.len s hs
      (try simp only [wC_ap, wSetI_ap, wExpr_ap, wRet_ap, wRetN_ap, wRet0_ap, wIf_ap, wFor_ap, wWhile_ap, wBreak_ap, wCont_ap, wNever_ap, wPick_ap, wCallL_ap, wOp_ap, wIxO_ap, wNoPart_ap, wPart_ap, wSl_ap, wUn_ap, wTest_ap, wChain_ap, wTru_ap, wNotT_ap, wAndT_ap, wOrT_ap, wAnd_ap, wOr_ap, wNot_ap, wIfE_ap, wNil_ap, wCons_ap, wTup_ap, wLst_ap, wCall_ap, wCall0_ap, wCallIo_ap, wYes_ap, wGn_ap, wSr_ap, wEn_ap, wZp_ap, wRg1_ap, wRg2_ap, wLc_ap, wMeth_ap, wMeth0_ap, wNext_ap, wSeq_ap, wAsg_ap, wSet_ap, wV_ap, wPar_ap, par2_ap, wGnil_ap, wGcons_ap, wGtup_ap, sl_z, sl_s, set_z, set_s, wipe_z, wipe_s, rest_z, rest_s, oAdd_i, oAdd_t, oAdd_l, oAdd_s, oSub_i, oMul_i, oMul_t, oII_i, oII0_i, oIx_l, oIx_t, oIx_f, oIsN_n, oNotN_n, oLen_l, oLen_t, oLen_f, oInt_i, oInt_b, oI1_i, oNeg_i, oList_l, oList_t, oTuple_l, oTuple_t, oBs_l, oSl_l, oSl_t, oIsi_ap, oIsi2_ap, tyD_n, tyD_b, tyD_i, tyD_s, tyD_t, tyD_l, tyD_f, truD_n, truD_b, truD_i, truD_t, truD_l, asB_b, asI_i, asL_l, isL_l, isL_t, isL_i, isL_b, isL_n, itD_l, itD_t, itD_f, fApp_ap, fExt_ap, ex_some, onS_ap, ite_t, ite_f, bodyD_ap, ioD_c, start_ap, isi_int_NoneType, isi_int_bool, isi_int_int, isi_int_str, isi_int_tuple, isi_int_list, isi_int_dict, isi_bool_NoneType, isi_bool_bool, isi_bool_int, isi_bool_str, isi_bool_tuple, isi_bool_list, isi_bool_dict, isi_str_NoneType, isi_str_bool, isi_str_int, isi_str_str, isi_str_tuple, isi_str_list, isi_str_dict, isi_list_NoneType, isi_list_bool, isi_list_int, isi_list_str, isi_list_tuple, isi_list_list, isi_list_dict, isi_tuple_NoneType, isi_tuple_bool, isi_tuple_int, isi_tuple_str, isi_tuple_tuple, isi_tuple_list, isi_tuple_dict, isi_dict_NoneType, isi_dict_bool, isi_dict_int, isi_dict_str, isi_dict_tuple, isi_dict_list, isi_dict_dict, List.map_cons, List.map_nil, List.cons_append, List.nil_append, List.length_cons, List.length_nil, List.replicate_succ, List.replicate_zero, Nat.reduceAdd, Nat.reduceSub, Nat.zero_add, true_and, and_true, Bool.not_true, Bool.not_false, Bool.true_or, Bool.or_true, Bool.false_or, Bool.or_false, if_true, if_false, Bool.false_eq_true, oIx_tI, facAt_at (show at_ < s.length by omega)])
      by_cases h : 0 < facAt s at_
      · rw [decide_eq_true h]
        (try simp only [wC_ap, wSetI_ap, wExpr_ap, wRet_ap, wRetN_ap, wRet0_ap, wIf_ap, wFor_ap, wWhile_ap, wBreak_ap, wCont_ap, wNever_ap, wPick_ap, wCallL_ap, wOp_ap, wIxO_ap, wNoPart_ap, wPart_ap, wSl_ap, wUn_ap, wTest_ap, wChain_ap, wTru_ap, wNotT_ap, wAndT_ap, wOrT_ap, wAnd_ap, wOr_ap, wNot_ap, wIfE_ap, wNil_ap, wCons_ap, wTup_ap, wLst_ap, wCall_ap, wCall0_ap, wCallIo_ap, wYes_ap, wGn_ap, wSr_ap, wEn_ap, wZp_ap, wRg1_ap, wRg2_ap, wLc_ap, wMeth_ap, wMeth0_ap, wNext_ap, wSeq_ap, wAsg_ap, wSet_ap, wV_ap, wPar_ap, par2_ap, wGnil_ap, wGcons_ap, wGtup_ap, sl_z, sl_s, set_z, set_s, wipe_z, wipe_s, rest_z, rest_s, oAdd_i, oAdd_t, oAdd_l, oAdd_s, oSub_i, oMul_i, oMul_t, oII_i, oII0_i, oIx_l, oIx_t, oIx_f, oIsN_n, oNotN_n, oLen_l, oLen_t, oLen_f, oInt_i, oInt_b, oI1_i, oNeg_i, oList_l, oList_t, oTuple_l, oTuple_t, oBs_l, oSl_l, oSl_t, oIsi_ap, oIsi2_ap, tyD_n, tyD_b, tyD_i, tyD_s, tyD_t, tyD_l, tyD_f, truD_n, truD_b, truD_i, truD_t, truD_l, asB_b, asI_i, asL_l, isL_l, isL_t, isL_i, isL_b, isL_n, itD_l, itD_t, itD_f, fApp_ap, fExt_ap, ex_some, onS_ap, ite_t, ite_f, bodyD_ap, ioD_c, start_ap, isi_int_NoneType, isi_int_bool, isi_int_int, isi_int_str, isi_int_tuple, isi_int_list, isi_int_dict, isi_bool_NoneType, isi_bool_bool, isi_bool_int, isi_bool_str, isi_bool_tuple, isi_bool_list, isi_bool_dict, isi_str_NoneType, isi_str_bool, isi_str_int, isi_str_str, isi_str_tuple, isi_str_list, isi_str_dict, isi_list_NoneType, isi_list_bool, isi_list_int, isi_list_str, isi_list_tuple, isi_list_list, isi_list_dict, isi_tuple_NoneType, isi_tuple_bool, isi_tuple_int, isi_tuple_str, isi_tuple_tuple, isi_tuple_list, isi_tuple_dict, isi_dict_NoneType, isi_dict_bool, isi_dict_int, isi_dict_str, isi_dict_tuple, isi_dict_list, isi_dict_dict, List.map_cons, List.map_nil, List.cons_append, List.nil_append, List.length_cons, List.length_nil, List.replicate_succ, List.replicate_zero, Nat.reduceAdd, Nat.reduceSub, Nat.zero_add, true_and, and_true, Bool.not_true, Bool.not_false, Bool.true_or, Bool.or_true, Bool.false_or, Bool.or_false, if_true, if_false, Bool.false_eq_true])
        exact h1 _ _ (by simp [facD_tI, h]) rfl
      · rw [decide_eq_false h]
        (try simp only [wC_ap, wSetI_ap, wExpr_ap, wRet_ap, wRetN_ap, wRet0_ap, wIf_ap, wFor_ap, wWhile_ap, wBreak_ap, wCont_ap, wNever_ap, wPick_ap, wCallL_ap, wOp_ap, wIxO_ap, wNoPart_ap, wPart_ap, wSl_ap, wUn_ap, wTest_ap, wChain_ap, wTru_ap, wNotT_ap, wAndT_ap, wOrT_ap, wAnd_ap, wOr_ap, wNot_ap, wIfE_ap, wNil_ap, wCons_ap, wTup_ap, wLst_ap, wCall_ap, wCall0_ap, wCallIo_ap, wYes_ap, wGn_ap, wSr_ap, wEn_ap, wZp_ap, wRg1_ap, wRg2_ap, wLc_ap, wMeth_ap, wMeth0_ap, wNext_ap, wSeq_ap, wAsg_ap, wSet_ap, wV_ap, wPar_ap, par2_ap, wGnil_ap, wGcons_ap, wGtup_ap, sl_z, sl_s, set_z, set_s, wipe_z, wipe_s, rest_z, rest_s, oAdd_i, oAdd_t, oAdd_l, oAdd_s, oSub_i, oMul_i, oMul_t, oII_i, oII0_i, oIx_l, oIx_t, oIx_f, oIsN_n, oNotN_n, oLen_l, oLen_t, oLen_f, oInt_i, oInt_b, oI1_i, oNeg_i, oList_l, oList_t, oTuple_l, oTuple_t, oBs_l, oSl_l, oSl_t, oIsi_ap, oIsi2_ap, tyD_n, tyD_b, tyD_i, tyD_s, tyD_t, tyD_l, tyD_f, truD_n, truD_b, truD_i, truD_t, truD_l, asB_b, asI_i, asL_l, isL_l, isL_t, isL_i, isL_b, isL_n, itD_l, itD_t, itD_f, fApp_ap, fExt_ap, ex_some, onS_ap, ite_t, ite_f, bodyD_ap, ioD_c, start_ap, isi_int_NoneType, isi_int_bool, isi_int_int, isi_int_str, isi_int_tuple, isi_int_list, isi_int_dict, isi_bool_NoneType, isi_bool_bool, isi_bool_int, isi_bool_str, isi_bool_tuple, isi_bool_list, isi_bool_dict, isi_str_NoneType, isi_str_bool, isi_str_int, isi_str_str, isi_str_tuple, isi_str_list, isi_str_dict, isi_list_NoneType, isi_list_bool, isi_list_int, isi_list_str, isi_list_tuple, isi_list_list, isi_list_dict, isi_tuple_NoneType, isi_tuple_bool, isi_tuple_int, isi_tuple_str, isi_tuple_tuple, isi_tuple_list, isi_tuple_dict, isi_dict_NoneType, isi_dict_bool, isi_dict_int, isi_dict_str, isi_dict_tuple, isi_dict_list, isi_dict_dict, List.map_cons, List.map_nil, List.cons_append, List.nil_append, List.length_cons, List.length_nil, List.replicate_succ, List.replicate_zero, Nat.reduceAdd, Nat.reduceSub, Nat.zero_add, true_and, and_true, Bool.not_true, Bool.not_false, Bool.true_or, Bool.or_true, Bool.false_or, Bool.or_false, if_true, if_false, Bool.false_eq_true])
        exact h0 _ (by simp [facD_tI, h]) rfl
    · rw [en_highs]
      (try simp only [wC_ap, wSetI_ap, wExpr_ap, wRet_ap, wRetN_ap, wRet0_ap, wIf_ap, wFor_ap, wWhile_ap, wBreak_ap, wCont_ap, wNever_ap, wPick_ap, wCallL_ap, wOp_ap, wIxO_ap, wNoPart_ap, wPart_ap, wSl_ap, wUn_ap, wTest_ap, wChain_ap, wTru_ap, wNotT_ap, wAndT_ap, wOrT_ap, wAnd_ap, wOr_ap, wNot_ap, wIfE_ap, wNil_ap, wCons_ap, wTup_ap, wLst_ap, wCall_ap, wCall0_ap, wCallIo_ap, wYes_ap, wGn_ap, wSr_ap, wEn_ap, wZp_ap, wRg1_ap, wRg2_ap, wLc_ap, wMeth_ap, wMeth0_ap, wNext_ap, wSeq_ap, wAsg_ap, wSet_ap, wV_ap, wPar_ap, par2_ap, wGnil_ap, wGcons_ap, wGtup_ap, sl_z, sl_s, set_z, set_s, wipe_z, wipe_s, rest_z, rest_s, oAdd_i, oAdd_t, oAdd_l, oAdd_s, oSub_i, oMul_i, oMul_t, oII_i, oII0_i, oIx_l, oIx_t, oIx_f, oIsN_n, oNotN_n, oLen_l, oLen_t, oLen_f, oInt_i, oInt_b, oI1_i, oNeg_i, oList_l, oList_t, oTuple_l, oTuple_t, oBs_l, oSl_l, oSl_t, oIsi_ap, oIsi2_ap, tyD_n, tyD_b, tyD_i, tyD_s, tyD_t, tyD_l, tyD_f, truD_n, truD_b, truD_i, truD_t, truD_l, asB_b, asI_i, asL_l, isL_l, isL_t, isL_i, isL_b, isL_n, itD_l, itD_t, itD_f, fApp_ap, fExt_ap, ex_some, onS_ap, ite_t, ite_f, bodyD_ap, ioD_c, start_ap, isi_int_NoneType, isi_int_bool, isi_int_int, isi_int_str, isi_int_tuple, isi_int_list, isi_int_dict, isi_bool_NoneType, isi_bool_bool, isi_bool_int, isi_bool_str, isi_bool_tuple, isi_bool_list, isi_bool_dict, isi_str_NoneType, isi_str_bool, isi_str_int, isi_str_str, isi_str_tuple, isi_str_list, isi_str_dict, isi_list_NoneType, isi_list_bool, isi_list_int, isi_list_str, isi_list_tuple, isi_list_list, isi_list_dict, isi_tuple_NoneType, isi_tuple_bool, isi_tuple_int, isi_tuple_str, isi_tuple_tuple, isi_tuple_list, isi_tuple_dict, isi_dict_NoneType, isi_dict_bool, isi_dict_int, isi_dict_str, isi_dict_tuple, isi_dict_list, isi_dict_dict, List.map_cons, List.map_nil, List.cons_append, List.nil_append, List.length_cons, List.length_nil, List.replicate_succ, List.replicate_zero, Nat.reduceAdd, Nat.reduceSub, Nat.zero_add, true_and, and_true, Bool.not_true, Bool.not_false, Bool.true_or, Bool.or_true, Bool.false_or, Bool.or_false, if_true, if_false, Bool.false_eq_true])
      refine ⟨small_z (by decide), ?_⟩
      have hh := highs_len at_ 0 ss
      have hl := lows_len at_ 0 ss
      refine for_inv (fun pre ε => ∃ o ls, pre = ls.map (fun j => D.int (j : Nat)) ∧ ε = [some (sq b (ss.map tI)), some (.int at_), some (.lst ((lowsOf at_ 0 ss).map fun j => .int (j : Nat))), some (.lst ((highsOf at_ 0 ss).map fun j => .int (j : Nat))), some (.lst ((ls.flatMap fun l => (highsOf at_ 0 ss).map fun h => (l, h)).map nn)), o, none, none, none]) ?_ ?_ ⟨none, [], rfl, rfl⟩
      · rintro pre d r ε e ⟨o, ls, hpre, rfl⟩ N hN
        obtain ⟨l, hl', rfl⟩ := mid e
        have hln := mid_len e
        rw [hpre, List.length_map] at hln
        (try simp only [wC_ap, wSetI_ap, wExpr_ap, wRet_ap, wRetN_ap, wRet0_ap, wIf_ap, wFor_ap, wWhile_ap, wBreak_ap, wCont_ap, wNever_ap, wPick_ap, wCallL_ap, wOp_ap, wIxO_ap, wNoPart_ap, wPart_ap, wSl_ap, wUn_ap, wTest_ap, wChain_ap, wTru_ap, wNotT_ap, wAndT_ap, wOrT_ap, wAnd_ap, wOr_ap, wNot_ap, wIfE_ap, wNil_ap, wCons_ap, wTup_ap, wLst_ap, wCall_ap, wCall0_ap, wCallIo_ap, wYes_ap, wGn_ap, wSr_ap, wEn_ap, wZp_ap, wRg1_ap, wRg2_ap, wLc_ap, wMeth_ap, wMeth0_ap, wNext_ap, wSeq_ap, wAsg_ap, wSet_ap, wV_ap, wPar_ap, par2_ap, wGnil_ap, wGcons_ap, wGtup_ap, sl_z, sl_s, set_z, set_s, wipe_z, wipe_s, rest_z, rest_s, oAdd_i, oAdd_t, oAdd_l, oAdd_s, oSub_i, oMul_i, oMul_t, oII_i, oII0_i, oIx_l, oIx_t, oIx_f, oIsN_n, oNotN_n, oLen_l, oLen_t, oLen_f, oInt_i, oInt_b, oI1_i, oNeg_i, oList_l, oList_t, oTuple_l, oTuple_t, oBs_l, oSl_l, oSl_t, oIsi_ap, oIsi2_ap, tyD_n, tyD_b, tyD_i, tyD_s, tyD_t, tyD_l, tyD_f, truD_n, truD_b, truD_i, truD_t, truD_l, asB_b, asI_i, asL_l, isL_l, isL_t, isL_i, isL_b, isL_n, itD_l, itD_t, itD_f, fApp_ap, fExt_ap, ex_some, onS_ap, ite_t, ite_f, bodyD_ap, ioD_c, start_ap, isi_int_NoneType, isi_int_bool, isi_int_int, isi_int_str, isi_int_tuple, isi_int_list, isi_int_dict, isi_bool_NoneType, isi_bool_bool, isi_bool_int, isi_bool_str, isi_bool_tuple, isi_bool_list, isi_bool_dict, isi_str_NoneType, isi_str_bool, isi_str_int, isi_str_str, isi_str_tuple, isi_str_list, isi_str_dict, isi_list_NoneType, isi_list_bool, isi_list_int, isi_list_str, isi_list_tuple, isi_list_list, isi_list_dict, isi_tuple_NoneType, isi_tuple_bool, isi_tuple_int, isi_tuple_str, isi_tuple_tuple, isi_tuple_list, isi_tuple_dict, isi_dict_NoneType, isi_dict_bool, isi_dict_int, isi_dict_str, isi_dict_tuple, isi_dict_list, isi_dict_dict, List.map_cons, List.map_nil, List.cons_append, List.nil_append, List.length_cons, List.length_nil, List.replicate_succ, List.replicate_zero, Nat.reduceAdd, Nat.reduceSub, Nat.zero_add, true_and, and_true, Bool.not_true, Bool.not_false, Bool.true_or, Bool.or_true, Bool.false_or, Bool.or_false, if_true, if_false, Bool.false_eq_true])
        refine ⟨by rw [List.length_map]; exact small_z (by omega), lc_map (fun d => .tup [.int l, d]) ?_ ?_⟩
        · intro d hd K1 h1
          obtain ⟨h, _, rfl⟩ := List.mem_map.mp hd
          (try simp only [wC_ap, wSetI_ap, wExpr_ap, wRet_ap, wRetN_ap, wRet0_ap, wIf_ap, wFor_ap, wWhile_ap, wBreak_ap, wCont_ap, wNever_ap, wPick_ap, wCallL_ap, wOp_ap, wIxO_ap, wNoPart_ap, wPart_ap, wSl_ap, wUn_ap, wTest_ap, wChain_ap, wTru_ap, wNotT_ap, wAndT_ap, wOrT_ap, wAnd_ap, wOr_ap, wNot_ap, wIfE_ap, wNil_ap, wCons_ap, wTup_ap, wLst_ap, wCall_ap, wCall0_ap, wCallIo_ap, wYes_ap, wGn_ap, wSr_ap, wEn_ap, wZp_ap, wRg1_ap, wRg2_ap, wLc_ap, wMeth_ap, wMeth0_ap, wNext_ap, wSeq_ap, wAsg_ap, wSet_ap, wV_ap, wPar_ap, par2_ap, wGnil_ap, wGcons_ap, wGtup_ap, sl_z, sl_s, set_z, set_s, wipe_z, wipe_s, rest_z, rest_s, oAdd_i, oAdd_t, oAdd_l, oAdd_s, oSub_i, oMul_i, oMul_t, oII_i, oII0_i, oIx_l, oIx_t, oIx_f, oIsN_n, oNotN_n, oLen_l, oLen_t, oLen_f, oInt_i, oInt_b, oI1_i, oNeg_i, oList_l, oList_t, oTuple_l, oTuple_t, oBs_l, oSl_l, oSl_t, oIsi_ap, oIsi2_ap, tyD_n, tyD_b, tyD_i, tyD_s, tyD_t, tyD_l, tyD_f, truD_n, truD_b, truD_i, truD_t, truD_l, asB_b, asI_i, asL_l, isL_l, isL_t, isL_i, isL_b, isL_n, itD_l, itD_t, itD_f, fApp_ap, fExt_ap, ex_some, onS_ap, ite_t, ite_f, bodyD_ap, ioD_c, start_ap, isi_int_NoneType, isi_int_bool, isi_int_int, isi_int_str, isi_int_tuple, isi_int_list, isi_int_dict, isi_bool_NoneType, isi_bool_bool, isi_bool_int, isi_bool_str, isi_bool_tuple, isi_bool_list, isi_bool_dict, isi_str_NoneType, isi_str_bool, isi_str_int, isi_str_str, isi_str_tuple, isi_str_list, isi_str_dict, isi_list_NoneType, isi_list_bool, isi_list_int, isi_list_str, isi_list_tuple, isi_list_list, isi_list_dict, isi_tuple_NoneType, isi_tuple_bool, isi_tuple_int, isi_tuple_str, isi_tuple_tuple, isi_tuple_list, isi_tuple_dict, isi_dict_NoneType, isi_dict_bool, isi_dict_int, isi_dict_str, isi_dict_tuple, isi_dict_list, isi_dict_dict, List.map_cons, List.map_nil, List.cons_append, List.nil_append, List.length_cons, List.length_nil, List.replicate_succ, List.replicate_zero, Nat.reduceAdd, Nat.reduceSub, Nat.zero_add, true_and, and_true, Bool.not_true, Bool.not_false, Bool.true_or, Bool.or_true, Bool.false_or, Bool.or_false, if_true, if_false, Bool.false_eq_true])
          exact ⟨small_z (by decide), h1 _ rfl⟩
        · (try simp only [wC_ap, wSetI_ap, wExpr_ap, wRet_ap, wRetN_ap, wRet0_ap, wIf_ap, wFor_ap, wWhile_ap, wBreak_ap, wCont_ap, wNever_ap, wPick_ap, wCallL_ap, wOp_ap, wIxO_ap, wNoPart_ap, wPart_ap, wSl_ap, wUn_ap, wTest_ap, wChain_ap, wTru_ap, wNotT_ap, wAndT_ap, wOrT_ap, wAnd_ap, wOr_ap, wNot_ap, wIfE_ap, wNil_ap, wCons_ap, wTup_ap, wLst_ap, wCall_ap, wCall0_ap, wCallIo_ap, wYes_ap, wGn_ap, wSr_ap, wEn_ap, wZp_ap, wRg1_ap, wRg2_ap, wLc_ap, wMeth_ap, wMeth0_ap, wNext_ap, wSeq_ap, wAsg_ap, wSet_ap, wV_ap, wPar_ap, par2_ap, wGnil_ap, wGcons_ap, wGtup_ap, sl_z, sl_s, set_z, set_s, wipe_z, wipe_s, rest_z, rest_s, oAdd_i, oAdd_t, oAdd_l, oAdd_s, oSub_i, oMul_i, oMul_t, oII_i, oII0_i, oIx_l, oIx_t, oIx_f, oIsN_n, oNotN_n, oLen_l, oLen_t, oLen_f, oInt_i, oInt_b, oI1_i, oNeg_i, oList_l, oList_t, oTuple_l, oTuple_t, oBs_l, oSl_l, oSl_t, oIsi_ap, oIsi2_ap, tyD_n, tyD_b, tyD_i, tyD_s, tyD_t, tyD_l, tyD_f, truD_n, truD_b, truD_i, truD_t, truD_l, asB_b, asI_i, asL_l, isL_l, isL_t, isL_i, isL_b, isL_n, itD_l, itD_t, itD_f, fApp_ap, fExt_ap, ex_some, onS_ap, ite_t, ite_f, bodyD_ap, ioD_c, start_ap, isi_int_NoneType, isi_int_bool, isi_int_int, isi_int_str, isi_int_tuple, isi_int_list, isi_int_dict, isi_bool_NoneType, isi_bool_bool, isi_bool_int, isi_bool_str, isi_bool_tuple, isi_bool_list, isi_bool_dict, isi_str_NoneType, isi_str_bool, isi_str_int, isi_str_str, isi_str_tuple, isi_str_list, isi_str_dict, isi_list_NoneType, isi_list_bool, isi_list_int, isi_list_str, isi_list_tuple, isi_list_list, isi_list_dict, isi_tuple_NoneType, isi_tuple_bool, isi_tuple_int, isi_tuple_str, isi_tuple_tuple, isi_tuple_list, isi_tuple_dict, isi_dict_NoneType, isi_dict_bool, isi_dict_int, isi_dict_str, isi_dict_tuple, isi_dict_list, isi_dict_dict, List.map_cons, List.map_nil, List.cons_append, List.nil_append, List.length_cons, List.length_nil, List.replicate_succ, List.replicate_zero, Nat.reduceAdd, Nat.reduceSub, Nat.zero_add, true_and, and_true, Bool.not_true, Bool.not_false, Bool.true_or, Bool.or_true, Bool.false_or, Bool.or_false, if_true, if_false, Bool.false_eq_true])
          have e2 : ((highsOf at_ 0 ss).map fun j => D.int (j : Nat)).map (fun d => D.tup [.int (l : Nat), d]) = ((highsOf at_ 0 ss).map fun h => (l, h)).map nn := by
            rw [List.map_map, List.map_map]; rfl
          rw [e2]
          refine ⟨?_, ?_⟩
          · simp only [List.length_map, List.length_flatMap]
            have : ((ls.map fun _ => (highsOf at_ 0 ss).length)).sum = ls.length * (highsOf at_ 0 ss).length := by
              clear hN hpre hln e
              induction ls with
              | nil => simp
              | cons x xs ih => simp [Nat.succ_mul, ih]; omega
            simp only [this]
            have : ls.length * (highsOf at_ 0 ss).length ≤ 100 * 100 := Nat.mul_le_mul (by omega) (by omega)
            exact small_z (by omega)
          · refine hN _ ⟨some (.int l), ls ++ [l], by rw [hpre]; simp, ?_⟩
            simp
      · rintro ε ⟨o, ls, hpre, rfl⟩
        (try simp only [wC_ap, wSetI_ap, wExpr_ap, wRet_ap, wRetN_ap, wRet0_ap, wIf_ap, wFor_ap, wWhile_ap, wBreak_ap, wCont_ap, wNever_ap, wPick_ap, wCallL_ap, wOp_ap, wIxO_ap, wNoPart_ap, wPart_ap, wSl_ap, wUn_ap, wTest_ap, wChain_ap, wTru_ap, wNotT_ap, wAndT_ap, wOrT_ap, wAnd_ap, wOr_ap, wNot_ap, wIfE_ap, wNil_ap, wCons_ap, wTup_ap, wLst_ap, wCall_ap, wCall0_ap, wCallIo_ap, wYes_ap, wGn_ap, wSr_ap, wEn_ap, wZp_ap, wRg1_ap, wRg2_ap, wLc_ap, wMeth_ap, wMeth0_ap, wNext_ap, wSeq_ap, wAsg_ap, wSet_ap, wV_ap, wPar_ap, par2_ap, wGnil_ap, wGcons_ap, wGtup_ap, sl_z, sl_s, set_z, set_s, wipe_z, wipe_s, rest_z, rest_s, oAdd_i, oAdd_t, oAdd_l, oAdd_s, oSub_i, oMul_i, oMul_t, oII_i, oII0_i, oIx_l, oIx_t, oIx_f, oIsN_n, oNotN_n, oLen_l, oLen_t, oLen_f, oInt_i, oInt_b, oI1_i, oNeg_i, oList_l, oList_t, oTuple_l, oTuple_t, oBs_l, oSl_l, oSl_t, oIsi_ap, oIsi2_ap, tyD_n, tyD_b, tyD_i, tyD_s, tyD_t, tyD_l, tyD_f, truD_n, truD_b, truD_i, truD_t, truD_l, asB_b, asI_i, asL_l, isL_l, isL_t, isL_i, isL_b, isL_n, itD_l, itD_t, itD_f, fApp_ap, fExt_ap, ex_some, onS_ap, ite_t, ite_f, bodyD_ap, ioD_c, start_ap, isi_int_NoneType, isi_int_bool, isi_int_int, isi_int_str, isi_int_tuple, isi_int_list, isi_int_dict, isi_bool_NoneType, isi_bool_bool, isi_bool_int, isi_bool_str, isi_bool_tuple, isi_bool_list, isi_bool_dict, isi_str_NoneType, isi_str_bool, isi_str_int, isi_str_str, isi_str_tuple, isi_str_list, isi_str_dict, isi_list_NoneType, isi_list_bool, isi_list_int, isi_list_str, isi_list_tuple, isi_list_list, isi_list_dict, isi_tuple_NoneType, isi_tuple_bool, isi_tuple_int, isi_tuple_str, isi_tuple_tuple, isi_tuple_list, isi_tuple_dict, isi_dict_NoneType, isi_dict_bool, isi_dict_int, isi_dict_str, isi_dict_tuple, isi_dict_list, isi_dict_dict, List.map_cons, List.map_nil, List.cons_append, List.nil_append, List.length_cons, List.length_nil, List.replicate_succ, List.replicate_zero, Nat.reduceAdd, Nat.reduceSub, Nat.zero_add, true_and, and_true, Bool.not_true, Bool.not_false, Bool.true_or, Bool.or_true, Bool.false_or, Bool.or_false, if_true, if_false, Bool.false_eq_true])
        have : ls = lowsOf at_ 0 ss := by
          have := congrArg (List.map fun d => match d with | D.int z => z.toNat | _ => 0) hpre
          simpa [List.map_map, Function.comp_def] using this.symm
        subst this
        exact q _ _ rfl
theorem h_pair_sum : ∀ ds EF PF, f_pair_sum ds EF PF → ds.length = 3 ∧ bodyD 3 b_pair_sum ds EF PF := by
  rintro ds EF PF ⟨⟨l, h, at_⟩, rfl, ⟨p1, p2, p3, p4, p5⟩, q⟩
  refine ⟨rfl, ?_⟩
  have p2 : l.length = h.length := p2
  have p3 : at_ < l.length := p3
  have p1 : okS l := p1
  have bnd : ∀ s : List Int, at_ < s.length → (∀ z ∈ s, -1000 ≤ z ∧ z ≤ 1000) → -1000 ≤ facAt s at_ ∧ facAt s at_ ≤ 1000 := fun s hs hb => by
    unfold facAt
    rw [List.getD_eq_getElem?_getD, List.getElem?_eq_getElem hs]
    exact hb _ (List.getElem_mem hs)
  have b1 := bnd l p3 p4
  have b2 := bnd h (by omega) p5
  unfold b_pair_sum
  (try simp only [wC_ap, wSetI_ap, wExpr_ap, wRet_ap, wRetN_ap, wRet0_ap, wIf_ap, wFor_ap, wWhile_ap, wBreak_ap, wCont_ap, wNever_ap, wPick_ap, wCallL_ap, wOp_ap, wIxO_ap, wNoPart_ap, wPart_ap, wSl_ap, wUn_ap, wTest_ap, wChain_ap, wTru_ap, wNotT_ap, wAndT_ap, wOrT_ap, wAnd_ap, wOr_ap, wNot_ap, wIfE_ap, wNil_ap, wCons_ap, wTup_ap, wLst_ap, wCall_ap, wCall0_ap, wCallIo_ap, wYes_ap, wGn_ap, wSr_ap, wEn_ap, wZp_ap, wRg1_ap, wRg2_ap, wLc_ap, wMeth_ap, wMeth0_ap, wNext_ap, wSeq_ap, wAsg_ap, wSet_ap, wV_ap, wPar_ap, par2_ap, wGnil_ap, wGcons_ap, wGtup_ap, sl_z, sl_s, set_z, set_s, wipe_z, wipe_s, rest_z, rest_s, oAdd_i, oAdd_t, oAdd_l, oAdd_s, oSub_i, oMul_i, oMul_t, oII_i, oII0_i, oIx_l, oIx_t, oIx_f, oIsN_n, oNotN_n, oLen_l, oLen_t, oLen_f, oInt_i, oInt_b, oI1_i, oNeg_i, oList_l, oList_t, oTuple_l, oTuple_t, oBs_l, oSl_l, oSl_t, oIsi_ap, oIsi2_ap, tyD_n, tyD_b, tyD_i, tyD_s, tyD_t, tyD_l, tyD_f, truD_n, truD_b, truD_i, truD_t, truD_l, asB_b, asI_i, asL_l, isL_l, isL_t, isL_i, isL_b, isL_n, itD_l, itD_t, itD_f, fApp_ap, fExt_ap, ex_some, onS_ap, ite_t, ite_f, bodyD_ap, ioD_c, start_ap, isi_int_NoneType, isi_int_bool, isi_int_int, isi_int_str, isi_int_tuple, isi_int_list, isi_int_dict, isi_bool_NoneType, isi_bool_bool, isi_bool_int, isi_bool_str, isi_bool_tuple, isi_bool_list, isi_bool_dict, isi_str_NoneType, isi_str_bool, isi_str_int, isi_str_str, isi_str_tuple, isi_str_list, isi_str_dict, isi_list_NoneType, isi_list_bool, isi_list_int, isi_list_str, isi_list_tuple, isi_list_list, isi_list_dict, isi_tuple_NoneType, isi_tuple_bool, isi_tuple_int, isi_tuple_str, isi_tuple_tuple, isi_tuple_list, isi_tuple_dict, isi_dict_NoneType, isi_dict_bool, isi_dict_int, isi_dict_str, isi_dict_tuple, isi_dict_list, isi_dict_dict, List.map_cons, List.map_nil, List.cons_append, List.nil_append, List.length_cons, List.length_nil, List.replicate_succ, List.replicate_zero, Nat.reduceAdd, Nat.reduceSub, Nat.zero_add, true_and, and_true, Bool.not_true, Bool.not_false, Bool.true_or, Bool.or_true, Bool.false_or, Bool.or_false, if_true, if_false, Bool.false_eq_true, oIx_tI, facAt_at (show at_ < h.length by omega)])
  refine ⟨(facAt h at_, l), rfl, ⟨p1, by show -(2 ^ 64) < facAt h at_; omega, by show facAt h at_ < 2 ^ 64; omega⟩, ?_⟩
  rintro r c' rfl
  (try simp only [wC_ap, wSetI_ap, wExpr_ap, wRet_ap, wRetN_ap, wRet0_ap, wIf_ap, wFor_ap, wWhile_ap, wBreak_ap, wCont_ap, wNever_ap, wPick_ap, wCallL_ap, wOp_ap, wIxO_ap, wNoPart_ap, wPart_ap, wSl_ap, wUn_ap, wTest_ap, wChain_ap, wTru_ap, wNotT_ap, wAndT_ap, wOrT_ap, wAnd_ap, wOr_ap, wNot_ap, wIfE_ap, wNil_ap, wCons_ap, wTup_ap, wLst_ap, wCall_ap, wCall0_ap, wCallIo_ap, wYes_ap, wGn_ap, wSr_ap, wEn_ap, wZp_ap, wRg1_ap, wRg2_ap, wLc_ap, wMeth_ap, wMeth0_ap, wNext_ap, wSeq_ap, wAsg_ap, wSet_ap, wV_ap, wPar_ap, par2_ap, wGnil_ap, wGcons_ap, wGtup_ap, sl_z, sl_s, set_z, set_s, wipe_z, wipe_s, rest_z, rest_s, oAdd_i, oAdd_t, oAdd_l, oAdd_s, oSub_i, oMul_i, oMul_t, oII_i, oII0_i, oIx_l, oIx_t, oIx_f, oIsN_n, oNotN_n, oLen_l, oLen_t, oLen_f, oInt_i, oInt_b, oI1_i, oNeg_i, oList_l, oList_t, oTuple_l, oTuple_t, oBs_l, oSl_l, oSl_t, oIsi_ap, oIsi2_ap, tyD_n, tyD_b, tyD_i, tyD_s, tyD_t, tyD_l, tyD_f, truD_n, truD_b, truD_i, truD_t, truD_l, asB_b, asI_i, asL_l, isL_l, isL_t, isL_i, isL_b, isL_n, itD_l, itD_t, itD_f, fApp_ap, fExt_ap, ex_some, onS_ap, ite_t, ite_f, bodyD_ap, ioD_c, start_ap, isi_int_NoneType, isi_int_bool, isi_int_int, isi_int_str, isi_int_tuple, isi_int_list, isi_int_dict, isi_bool_NoneType, isi_bool_bool, isi_bool_int, isi_bool_str, isi_bool_tuple, isi_bool_list, isi_bool_dict, isi_str_NoneType, isi_str_bool, isi_str_int, isi_str_str, isi_str_tuple, isi_str_list, isi_str_dict, isi_list_NoneType, isi_list_bool, isi_list_int, isi_list_str, isi_list_tuple, isi_list_list, isi_list_dict, isi_tuple_NoneType, isi_tuple_bool, isi_tuple_int, isi_tuple_str, isi_tuple_tuple, isi_tuple_list, isi_tuple_dict, isi_dict_NoneType, isi_dict_bool, isi_dict_int, isi_dict_str, isi_dict_tuple, isi_dict_list, isi_dict_dict, List.map_cons, List.map_nil, List.cons_append, List.nil_append, List.length_cons, List.length_nil, List.replicate_succ, List.replicate_zero, Nat.reduceAdd, Nat.reduceSub, Nat.zero_add, true_and, and_true, Bool.not_true, Bool.not_false, Bool.true_or, Bool.or_true, Bool.false_or, Bool.or_false, if_true, if_false, Bool.false_eq_true, oIx_tI, facAt_at p3])
  refine ⟨(0 - facAt l at_, h), rfl, ⟨by unfold okS at p1 ⊢; show 1 ≤ h.length ∧ h.length ≤ 11; omega, by show -(2 ^ 64) < 0 - facAt l at_; omega, by show 0 - facAt l at_ < 2 ^ 64; omega⟩, ?_⟩
  rintro r c' rfl
  refine ⟨(l.map (facAt h at_ * ·), h.map ((0 - facAt l at_) * ·)), rfl, ⟨by unfold okS at p1 ⊢; show 1 ≤ (l.map _).length ∧ (l.map _).length ≤ 11; rw [List.length_map]; exact p1, by show (l.map _).length = (h.map _).length; rw [List.length_map, List.length_map]; exact p2⟩, ?_⟩
  rintro r c' rfl
  exact q _ _ rfl
end K51
set_option Elab.async false
set_option linter.all false
set_option maxRecDepth 100000
set_option maxHeartbeats 4000000
namespace K51
open PySem PySem.Spec L2 DL
open PyProof.Rows hiding St
/-! cast_away -/
def intsD : D → List Int
  | .tup ds => ds.map fun d => match d with | .int z => z | _ => 0
  | _ => []
theorem intsD_tI (s : List Int) : intsD (tI s) = s := by
  show ((s.map D.int).map fun d => match d with | D.int z => z | _ => 0) = s
  rw [List.map_map]
  exact List.map_id s
def oldF (at_ : Nat) (d : D) : Option D := match d with
  | .tup [p, t] => if facD at_ t = 0 then some (.tup [tI (plainR (intsD t)), .tup [.str "old", p]]) else none
  | _ => none
theorem oldF_ap (at_ : Nat) (p : D) (s : List Int) : oldF at_ (.tup [p, tI s]) = if facAt s at_ = 0 then some (.tup [tI (plainR s), .tup [.str "old", p]]) else none := by
  unfold oldF
  simp only [facD_tI, intsD_tI]
theorem en_old (at_ : Nat) : ∀ (i : Nat) (ss : List (List Int)), (enD i (ss.map tI)).filterMap (oldF at_) = (oldRows at_ i ss).map rowD
  | _, [] => rfl
  | i, s :: r => by
    rw [List.map_cons, en_cons, List.filterMap_cons, en_old at_ (i + 1) r, show oldRows at_ i (s :: r) = if facAt s at_ = 0 then (plainR s, .old i) :: oldRows at_ (i + 1) r else oldRows at_ (i + 1) r from rfl]
    rw [oldF_ap]
    by_cases h : facAt s at_ = 0
    · simp [h, rowD, Mk.d]
    · simp [h]
theorem old_len (at_ : Nat) : ∀ (i : Nat) (ss : List (List Int)), (oldRows at_ i ss).length ≤ ss.length
  | _, [] => Nat.le_refl _
  | i, s :: r => by
    have := old_len at_ (i + 1) r
    unfold oldRows
    split <;> simp <;> omega
theorem lows_lt (at_ : Nat) : ∀ (i : Nat) (ss : List (List Int)) (j : Nat), j ∈ lowsOf at_ i ss → i ≤ j ∧ j < i + ss.length
  | _, [], j, h => by cases h
  | i, s :: r, j, h => by
    rw [show lowsOf at_ i (s :: r) = if facAt s at_ < 0 then i :: lowsOf at_ (i + 1) r else lowsOf at_ (i + 1) r from rfl] at h
    have key : j ∈ lowsOf at_ (i + 1) r → i ≤ j ∧ j < i + (s :: r).length := fun h => by
      have := lows_lt at_ (i + 1) r j h
      rw [List.length_cons]; omega
    split at h
    · rcases List.mem_cons.mp h with h | h
      · rw [List.length_cons]; omega
      · exact key h
    · exact key h
theorem highs_lt (at_ : Nat) : ∀ (i : Nat) (ss : List (List Int)) (j : Nat), j ∈ highsOf at_ i ss → i ≤ j ∧ j < i + ss.length
  | _, [], j, h => by cases h
  | i, s :: r, j, h => by
    rw [show highsOf at_ i (s :: r) = if 0 < facAt s at_ then i :: highsOf at_ (i + 1) r else highsOf at_ (i + 1) r from rfl] at h
    have key : j ∈ highsOf at_ (i + 1) r → i ≤ j ∧ j < i + (s :: r).length := fun h => by
      have := highs_lt at_ (i + 1) r j h
      rw [List.length_cons]; omega
    split at h
    · rcases List.mem_cons.mp h with h | h
      · rw [List.length_cons]; omega
      · exact key h
    · exact key h
theorem pairs_lt {ss : List (List Int)} {at_ : Nat} {p : Nat × Nat} (h : p ∈ pairsOf ss at_) : p.1 < ss.length ∧ p.2 < ss.length := by
  unfold pairsOf at h
  obtain ⟨l, hl, h⟩ := List.mem_flatMap.mp h
  obtain ⟨k, hk, e⟩ := List.mem_map.mp h
  subst e
  have h1 := lows_lt at_ 0 ss l hl
  have h2 := highs_lt at_ 0 ss k hk
  exact ⟨by show l < _; omega, by show k < _; omega⟩
theorem pairs_len {ss : List (List Int)} {at_ : Nat} (h : ss.length ≤ 100) : (pairsOf ss at_).length ≤ 10000 := by
  unfold pairsOf
  have hh := highs_len at_ 0 ss
  have hl := lows_len at_ 0 ss
  simp only [List.length_flatMap, List.length_map]
  have : ∀ ls : List Nat, ((ls.map fun _ => (highsOf at_ 0 ss).length)).sum = ls.length * (highsOf at_ 0 ss).length := fun ls => by
    induction ls with
    | nil => simp
    | cons x xs ih => simp [Nat.succ_mul, ih]; omega
  rw [this]
  exact Nat.le_trans (Nat.mul_le_mul (Nat.le_trans hl h) (Nat.le_trans hh h)) (by decide)
theorem CastOk.sum {ss : List (List Int)} {n at_ : Nat} (p : CastOk ss n at_) {s : List Int} (h : s ∈ ss) : okS s := by
  have := p.len s h
  have := p.n10
  exact ⟨by omega, by omega⟩
/-- what a sum made plain needs -/
structure PlOk (s : List Int) (n : Nat) : Prop where
  len : s.length = n + 1
  n10 : n ≤ 10
  sm : ∀ z ∈ s, z.natAbs ≤ 100000000
theorem PlOk.ne {s : List Int} {n : Nat} (h : PlOk s n) : s ≠ [] := fun e => by have := h.len; rw [e] at this; cases this
theorem PlOk.gcd {s : List Int} {n : Nat} (h : PlOk s n) : gcdL s.dropLast < 1073741824 :=
  Nat.lt_of_le_of_lt (gcdL_le (B := 100000000) _ fun z hz => h.sm z (List.dropLast_subset _ hz)) (by decide)
theorem PlOk.pre {s : List Int} {n : Nat} (h : PlOk s n) : (s.dropLast, s.getLastD 0).1.length ≤ 10 ∧ gcdL (s.dropLast, s.getLastD 0).1 < 1073741824 := by
  refine ⟨?_, h.gcd⟩
  show s.dropLast.length ≤ 10
  rw [List.length_dropLast, h.len]; exact h.n10
theorem CastOk.pl {ss : List (List Int)} {n at_ : Nat} (p : CastOk ss n at_) {s : List Int} (h : s ∈ ss) : PlOk s n :=
  ⟨p.len s h, p.n10, fun z hz => by have := p.sm s h z hz; omega⟩
theorem zip_len (f : Int → Int → Int) (xs ys : List Int) : (List.zipWith f xs ys).length = min xs.length ys.length := List.length_zipWith ..
theorem facAt_bnd {s : List Int} {i : Nat} (h : ∀ z ∈ s, -1000 ≤ z ∧ z ≤ 1000) : -1000 ≤ facAt s i ∧ facAt s i ≤ 1000 := by
  unfold facAt
  rw [List.getD_eq_getElem?_getD]
  cases e : s[i]? with
  | none => simp
  | some z => exact h z (List.mem_of_getElem? e)
theorem mul_bnd {a b : Int} (ha : -1000 ≤ a ∧ a ≤ 1000) (hb : -1000 ≤ b ∧ b ≤ 1000) : (a * b).natAbs ≤ 1000000 := by
  rw [Int.natAbs_mul]
  exact Nat.le_trans (Nat.mul_le_mul (show a.natAbs ≤ 1000 by omega) (show b.natAbs ≤ 1000 by omega)) (by decide)
theorem pair_pl {ss : List (List Int)} {n at_ : Nat} (p : CastOk ss n at_) {l h : List Int} (hl : l ∈ ss) (hh : h ∈ ss) : PlOk (pairS l h at_) n := by
  refine ⟨?_, p.n10, fun z hz => ?_⟩
  · unfold pairS
    rw [zip_len, List.length_map, List.length_map, p.len l hl, p.len h hh]; omega
  · unfold pairS at hz
    rw [List.zipWith_map, ← List.map_uncurry_zip_eq_zipWith] at hz
    obtain ⟨⟨x, y⟩, hxy, e⟩ := List.mem_map.mp hz
    have hx := p.sm l hl x (List.of_mem_zip hxy).1
    have hy := p.sm h hh y (List.of_mem_zip hxy).2
    have b1 := facAt_bnd (i := at_) (p.sm h hh)
    have b2 := facAt_bnd (i := at_) (p.sm l hl)
    have m1 := mul_bnd b1 hx
    have m2 := mul_bnd (a := 0 - facAt l at_) (b := y) (by omega) hy
    have e' : facAt h at_ * x + (0 - facAt l at_) * y = z := e
    rw [← e']
    omega
theorem plainS_len (fs : List Int) (k : Int) : (plainS fs k).length = fs.length + 1 := by
  unfold plainS
  split <;> simp
theorem plainR_len {s : List Int} {n : Nat} (h : PlOk s n) : (plainR s).length = n + 1 := by
  unfold plainR
  rw [plainS_len, List.length_dropLast, h.len]; omega
theorem oldRows_len {ss : List (List Int)} {n : Nat} (at_ : Nat) (h : ∀ s ∈ ss, PlOk s n) : ∀ (i : Nat), ∀ r ∈ oldRows at_ i ss, r.1.length = n + 1 := by
  induction ss with
  | nil => intro i r hr; cases hr
  | cons s t ih =>
    intro i r hr
    rw [show oldRows at_ i (s :: t) = if facAt s at_ = 0 then (plainR s, .old i) :: oldRows at_ (i + 1) t else oldRows at_ (i + 1) t from rfl] at hr
    have ih' := ih fun s hs => h s (List.mem_cons_of_mem _ hs)
    split at hr
    · rcases List.mem_cons.mp hr with hr | hr
      · rw [hr]; exact plainR_len (h s (List.mem_cons_self ..))
      · exact ih' (i + 1) r hr
    · exact ih' (i + 1) r hr
theorem getD_mem {ss : List (List Int)} {i : Nat} (h : i < ss.length) : ss.getD i [] ∈ ss := by
  rw [List.getD_eq_getElem?_getD, List.getElem?_eq_getElem h]
  exact List.getElem_mem h
theorem ix_sums {ss : List (List Int)} {i : Nat} (h : i < ss.length) : atI (ss.map tI) (i : Int) = some (tI (ss.getD i [])) := atI_n (by
  rw [List.getElem?_map, List.getD_eq_getElem?_getD, List.getElem?_eq_getElem h]; rfl)
def rowsAll (ss : List (List Int)) (at_ : Nat) : List (List Int × Mk) := oldRows at_ 0 ss ++ (pairsOf ss at_).map (pairRow ss at_)
theorem rowsAll_len {ss : List (List Int)} {n at_ : Nat} (p : CastOk ss n at_) : ∀ r ∈ rowsAll ss at_, r.1.length = n + 1 := by
  intro r hr
  rcases List.mem_append.mp hr with hr | hr
  · exact oldRows_len at_ (fun s hs => p.pl hs) 0 r hr
  · obtain ⟨q, hq, e⟩ := List.mem_map.mp hr
    subst e
    have := pairs_lt hq
    exact plainR_len (pair_pl p (getD_mem this.1) (getD_mem this.2))
theorem h_cast_away : ∀ ds EF PF, f_cast_away ds EF PF → ds.length = 2 ∧ bodyD 8 b_cast_away ds EF PF := by
  rintro ds EF PF ⟨⟨b, ss, n, at_⟩, rfl, p, q⟩
  refine ⟨rfl, ?_⟩
  have p : CastOk ss n at_ := p
  have hat := p.at_
  have hfew := p.few
  have hen : (enD 0 (ss.map tI)).length ≤ sizeLine := by rw [enD_len, List.length_map]; exact small_z (by omega)
  unfold b_cast_away
  (try simp only [wC_ap, wSetI_ap, wExpr_ap, wRet_ap, wRetN_ap, wRet0_ap, wIf_ap, wFor_ap, wWhile_ap, wBreak_ap, wCont_ap, wNever_ap, wPick_ap, wCallL_ap, wOp_ap, wIxO_ap, wNoPart_ap, wPart_ap, wSl_ap, wUn_ap, wTest_ap, wChain_ap, wTru_ap, wNotT_ap, wAndT_ap, wOrT_ap, wAnd_ap, wOr_ap, wNot_ap, wIfE_ap, wNil_ap, wCons_ap, wTup_ap, wLst_ap, wCall_ap, wCall0_ap, wCallIo_ap, wYes_ap, wGn_ap, wSr_ap, wEn_ap, wZp_ap, wRg1_ap, wRg2_ap, wLc_ap, wMeth_ap, wMeth0_ap, wNext_ap, wSeq_ap, wAsg_ap, wSet_ap, wV_ap, wPar_ap, par2_ap, wGnil_ap, wGcons_ap, wGtup_ap, sl_z, sl_s, set_z, set_s, wipe_z, wipe_s, rest_z, rest_s, oAdd_i, oAdd_t, oAdd_l, oAdd_s, oSub_i, oMul_i, oMul_t, oII_i, oII0_i, oIx_l, oIx_t, oIx_f, oIsN_n, oNotN_n, oLen_l, oLen_t, oLen_f, oInt_i, oInt_b, oI1_i, oNeg_i, oList_l, oList_t, oTuple_l, oTuple_t, oBs_l, oSl_l, oSl_t, oIsi_ap, oIsi2_ap, tyD_n, tyD_b, tyD_i, tyD_s, tyD_t, tyD_l, tyD_f, truD_n, truD_b, truD_i, truD_t, truD_l, asB_b, asI_i, asL_l, isL_l, isL_t, isL_i, isL_b, isL_n, itD_l, itD_t, itD_f, fApp_ap, fExt_ap, ex_some, onS_ap, ite_t, ite_f, bodyD_ap, ioD_c, start_ap, isi_int_NoneType, isi_int_bool, isi_int_int, isi_int_str, isi_int_tuple, isi_int_list, isi_int_dict, isi_bool_NoneType, isi_bool_bool, isi_bool_int, isi_bool_str, isi_bool_tuple, isi_bool_list, isi_bool_dict, isi_str_NoneType, isi_str_bool, isi_str_int, isi_str_str, isi_str_tuple, isi_str_list, isi_str_dict, isi_list_NoneType, isi_list_bool, isi_list_int, isi_list_str, isi_list_tuple, isi_list_list, isi_list_dict, isi_tuple_NoneType, isi_tuple_bool, isi_tuple_int, isi_tuple_str, isi_tuple_tuple, isi_tuple_list, isi_tuple_dict, isi_dict_NoneType, isi_dict_bool, isi_dict_int, isi_dict_str, isi_dict_tuple, isi_dict_list, isi_dict_dict, List.map_cons, List.map_nil, List.cons_append, List.nil_append, List.length_cons, List.length_nil, List.replicate_succ, List.replicate_zero, Nat.reduceAdd, Nat.reduceSub, Nat.zero_add, true_and, and_true, Bool.not_true, Bool.not_false, Bool.true_or, Bool.or_true, Bool.false_or, Bool.or_false, if_true, if_false, Bool.false_eq_true])
  refine ⟨(b, ss, n, at_), rfl, p, ?_⟩
  rintro r c' rfl
  (try simp only [wC_ap, wSetI_ap, wExpr_ap, wRet_ap, wRetN_ap, wRet0_ap, wIf_ap, wFor_ap, wWhile_ap, wBreak_ap, wCont_ap, wNever_ap, wPick_ap, wCallL_ap, wOp_ap, wIxO_ap, wNoPart_ap, wPart_ap, wSl_ap, wUn_ap, wTest_ap, wChain_ap, wTru_ap, wNotT_ap, wAndT_ap, wOrT_ap, wAnd_ap, wOr_ap, wNot_ap, wIfE_ap, wNil_ap, wCons_ap, wTup_ap, wLst_ap, wCall_ap, wCall0_ap, wCallIo_ap, wYes_ap, wGn_ap, wSr_ap, wEn_ap, wZp_ap, wRg1_ap, wRg2_ap, wLc_ap, wMeth_ap, wMeth0_ap, wNext_ap, wSeq_ap, wAsg_ap, wSet_ap, wV_ap, wPar_ap, par2_ap, wGnil_ap, wGcons_ap, wGtup_ap, sl_z, sl_s, set_z, set_s, wipe_z, wipe_s, rest_z, rest_s, oAdd_i, oAdd_t, oAdd_l, oAdd_s, oSub_i, oMul_i, oMul_t, oII_i, oII0_i, oIx_l, oIx_t, oIx_f, oIsN_n, oNotN_n, oLen_l, oLen_t, oLen_f, oInt_i, oInt_b, oI1_i, oNeg_i, oList_l, oList_t, oTuple_l, oTuple_t, oBs_l, oSl_l, oSl_t, oIsi_ap, oIsi2_ap, tyD_n, tyD_b, tyD_i, tyD_s, tyD_t, tyD_l, tyD_f, truD_n, truD_b, truD_i, truD_t, truD_l, asB_b, asI_i, asL_l, isL_l, isL_t, isL_i, isL_b, isL_n, itD_l, itD_t, itD_f, fApp_ap, fExt_ap, ex_some, onS_ap, ite_t, ite_f, bodyD_ap, ioD_c, start_ap, isi_int_NoneType, isi_int_bool, isi_int_int, isi_int_str, isi_int_tuple, isi_int_list, isi_int_dict, isi_bool_NoneType, isi_bool_bool, isi_bool_int, isi_bool_str, isi_bool_tuple, isi_bool_list, isi_bool_dict, isi_str_NoneType, isi_str_bool, isi_str_int, isi_str_str, isi_str_tuple, isi_str_list, isi_str_dict, isi_list_NoneType, isi_list_bool, isi_list_int, isi_list_str, isi_list_tuple, isi_list_list, isi_list_dict, isi_tuple_NoneType, isi_tuple_bool, isi_tuple_int, isi_tuple_str, isi_tuple_tuple, isi_tuple_list, isi_tuple_dict, isi_dict_NoneType, isi_dict_bool, isi_dict_int, isi_dict_str, isi_dict_tuple, isi_dict_list, isi_dict_dict, List.map_cons, List.map_nil, List.cons_append, List.nil_append, List.length_cons, List.length_nil, List.replicate_succ, List.replicate_zero, Nat.reduceAdd, Nat.reduceSub, Nat.zero_add, true_and, and_true, Bool.not_true, Bool.not_false, Bool.true_or, Bool.or_true, Bool.false_or, Bool.or_false, if_true, if_false, Bool.false_eq_true, itD_sq])
  refine ⟨hen, lc_fm (oldF at_) ?_ ?_⟩
  · intro d hd K1 K0 h1 h0
    obtain ⟨j, s, hs, rfl⟩ := mem_en hd
    have hl := p.len s hs
    (try simp only [wC_ap, wSetI_ap, wExpr_ap, wRet_ap, wRetN_ap, wRet0_ap, wIf_ap, wFor_ap, wWhile_ap, wBreak_ap, wCont_ap, wNever_ap, wPick_ap, wCallL_ap, wOp_ap, wIxO_ap, wNoPart_ap, wPart_ap, wSl_ap, wUn_ap, wTest_ap, wChain_ap, wTru_ap, wNotT_ap, wAndT_ap, wOrT_ap, wAnd_ap, wOr_ap, wNot_ap, wIfE_ap, wNil_ap, wCons_ap, wTup_ap, wLst_ap, wCall_ap, wCall0_ap, wCallIo_ap, wYes_ap, wGn_ap, wSr_ap, wEn_ap, wZp_ap, wRg1_ap, wRg2_ap, wLc_ap, wMeth_ap, wMeth0_ap, wNext_ap, wSeq_ap, wAsg_ap, wSet_ap, wV_ap, wPar_ap, par2_ap, wGnil_ap, wGcons_ap, wGtup_ap, sl_z, sl_s, set_z, set_s, wipe_z, wipe_s, rest_z, rest_s, oAdd_i, oAdd_t, oAdd_l, oAdd_s, oSub_i, oMul_i, oMul_t, oII_i, oII0_i, oIx_l, oIx_t, oIx_f, oIsN_n, oNotN_n, oLen_l, oLen_t, oLen_f, oInt_i, oInt_b, oI1_i, oNeg_i, oList_l, oList_t, oTuple_l, oTuple_t, oBs_l, oSl_l, oSl_t, oIsi_ap, oIsi2_ap, tyD_n, tyD_b, tyD_i, tyD_s, tyD_t, tyD_l, tyD_f, truD_n, truD_b, truD_i, truD_t, truD_l, asB_b, asI_i, asL_l, isL_l, isL_t, isL_i, isL_b, isL_n, itD_l, itD_t, itD_f, fApp_ap, fExt_ap, ex_some, onS_ap, ite_t, ite_f, bodyD_ap, ioD_c, start_ap, isi_int_NoneType, isi_int_bool, isi_int_int, isi_int_str, isi_int_tuple, isi_int_list, isi_int_dict, isi_bool_NoneType, isi_bool_bool, isi_bool_int, isi_bool_str, isi_bool_tuple, isi_bool_list, isi_bool_dict, isi_str_NoneType, isi_str_bool, isi_str_int, isi_str_str, isi_str_tuple, isi_str_list, isi_str_dict, isi_list_NoneType, isi_list_bool, isi_list_int, isi_list_str, isi_list_tuple, isi_list_list, isi_list_dict, isi_tuple_NoneType, isi_tuple_bool, isi_tuple_int, isi_tuple_str, isi_tuple_tuple, isi_tuple_list, isi_tuple_dict, isi_dict_NoneType, isi_dict_bool, isi_dict_int, isi_dict_str, isi_dict_tuple, isi_dict_list, isi_dict_dict, List.map_cons, List.map_nil, List.cons_append, List.nil_append, List.length_cons, List.length_nil, List.replicate_succ, List.replicate_zero, Nat.reduceAdd, Nat.reduceSub, Nat.zero_add, true_and, and_true, Bool.not_true, Bool.not_false, Bool.true_or, Bool.or_true, Bool.false_or, Bool.or_false, if_true, if_false, Bool.false_eq_true, oIx_tI, facAt_at (show at_ < s.length by omega)])
    refine ⟨okD_int _ _, okD_int _ _, ?_⟩
    by_cases h : facAt s at_ = 0
    · rw [h, eqD_int_self]
      (try simp only [wC_ap, wSetI_ap, wExpr_ap, wRet_ap, wRetN_ap, wRet0_ap, wIf_ap, wFor_ap, wWhile_ap, wBreak_ap, wCont_ap, wNever_ap, wPick_ap, wCallL_ap, wOp_ap, wIxO_ap, wNoPart_ap, wPart_ap, wSl_ap, wUn_ap, wTest_ap, wChain_ap, wTru_ap, wNotT_ap, wAndT_ap, wOrT_ap, wAnd_ap, wOr_ap, wNot_ap, wIfE_ap, wNil_ap, wCons_ap, wTup_ap, wLst_ap, wCall_ap, wCall0_ap, wCallIo_ap, wYes_ap, wGn_ap, wSr_ap, wEn_ap, wZp_ap, wRg1_ap, wRg2_ap, wLc_ap, wMeth_ap, wMeth0_ap, wNext_ap, wSeq_ap, wAsg_ap, wSet_ap, wV_ap, wPar_ap, par2_ap, wGnil_ap, wGcons_ap, wGtup_ap, sl_z, sl_s, set_z, set_s, wipe_z, wipe_s, rest_z, rest_s, oAdd_i, oAdd_t, oAdd_l, oAdd_s, oSub_i, oMul_i, oMul_t, oII_i, oII0_i, oIx_l, oIx_t, oIx_f, oIsN_n, oNotN_n, oLen_l, oLen_t, oLen_f, oInt_i, oInt_b, oI1_i, oNeg_i, oList_l, oList_t, oTuple_l, oTuple_t, oBs_l, oSl_l, oSl_t, oIsi_ap, oIsi2_ap, tyD_n, tyD_b, tyD_i, tyD_s, tyD_t, tyD_l, tyD_f, truD_n, truD_b, truD_i, truD_t, truD_l, asB_b, asI_i, asL_l, isL_l, isL_t, isL_i, isL_b, isL_n, itD_l, itD_t, itD_f, fApp_ap, fExt_ap, ex_some, onS_ap, ite_t, ite_f, bodyD_ap, ioD_c, start_ap, isi_int_NoneType, isi_int_bool, isi_int_int, isi_int_str, isi_int_tuple, isi_int_list, isi_int_dict, isi_bool_NoneType, isi_bool_bool, isi_bool_int, isi_bool_str, isi_bool_tuple, isi_bool_list, isi_bool_dict, isi_str_NoneType, isi_str_bool, isi_str_int, isi_str_str, isi_str_tuple, isi_str_list, isi_str_dict, isi_list_NoneType, isi_list_bool, isi_list_int, isi_list_str, isi_list_tuple, isi_list_list, isi_list_dict, isi_tuple_NoneType, isi_tuple_bool, isi_tuple_int, isi_tuple_str, isi_tuple_tuple, isi_tuple_list, isi_tuple_dict, isi_dict_NoneType, isi_dict_bool, isi_dict_int, isi_dict_str, isi_dict_tuple, isi_dict_list, isi_dict_dict, List.map_cons, List.map_nil, List.cons_append, List.nil_append, List.length_cons, List.length_nil, List.replicate_succ, List.replicate_zero, Nat.reduceAdd, Nat.reduceSub, Nat.zero_add, true_and, and_true, Bool.not_true, Bool.not_false, Bool.true_or, Bool.or_true, Bool.false_or, Bool.or_false, if_true, if_false, Bool.false_eq_true])
      refine ⟨(s.dropLast, s.getLastD 0), ?_, (p.pl hs).pre, ?_⟩
      · show [tI s] = [tI (s.dropLast ++ [s.getLastD 0])]
        rw [split_last (p.pl hs).ne]
      rintro r c' rfl
      refine ⟨small_z (by decide), small_z (by decide), h1 _ _ ?_ rfl⟩
      simp [oldF_ap, h, plainR]
    · rw [eqD_int_ne h]
      (try simp only [wC_ap, wSetI_ap, wExpr_ap, wRet_ap, wRetN_ap, wRet0_ap, wIf_ap, wFor_ap, wWhile_ap, wBreak_ap, wCont_ap, wNever_ap, wPick_ap, wCallL_ap, wOp_ap, wIxO_ap, wNoPart_ap, wPart_ap, wSl_ap, wUn_ap, wTest_ap, wChain_ap, wTru_ap, wNotT_ap, wAndT_ap, wOrT_ap, wAnd_ap, wOr_ap, wNot_ap, wIfE_ap, wNil_ap, wCons_ap, wTup_ap, wLst_ap, wCall_ap, wCall0_ap, wCallIo_ap, wYes_ap, wGn_ap, wSr_ap, wEn_ap, wZp_ap, wRg1_ap, wRg2_ap, wLc_ap, wMeth_ap, wMeth0_ap, wNext_ap, wSeq_ap, wAsg_ap, wSet_ap, wV_ap, wPar_ap, par2_ap, wGnil_ap, wGcons_ap, wGtup_ap, sl_z, sl_s, set_z, set_s, wipe_z, wipe_s, rest_z, rest_s, oAdd_i, oAdd_t, oAdd_l, oAdd_s, oSub_i, oMul_i, oMul_t, oII_i, oII0_i, oIx_l, oIx_t, oIx_f, oIsN_n, oNotN_n, oLen_l, oLen_t, oLen_f, oInt_i, oInt_b, oI1_i, oNeg_i, oList_l, oList_t, oTuple_l, oTuple_t, oBs_l, oSl_l, oSl_t, oIsi_ap, oIsi2_ap, tyD_n, tyD_b, tyD_i, tyD_s, tyD_t, tyD_l, tyD_f, truD_n, truD_b, truD_i, truD_t, truD_l, asB_b, asI_i, asL_l, isL_l, isL_t, isL_i, isL_b, isL_n, itD_l, itD_t, itD_f, fApp_ap, fExt_ap, ex_some, onS_ap, ite_t, ite_f, bodyD_ap, ioD_c, start_ap, isi_int_NoneType, isi_int_bool, isi_int_int, isi_int_str, isi_int_tuple, isi_int_list, isi_int_dict, isi_bool_NoneType, isi_bool_bool, isi_bool_int, isi_bool_str, isi_bool_tuple, isi_bool_list, isi_bool_dict, isi_str_NoneType, isi_str_bool, isi_str_int, isi_str_str, isi_str_tuple, isi_str_list, isi_str_dict, isi_list_NoneType, isi_list_bool, isi_list_int, isi_list_str, isi_list_tuple, isi_list_list, isi_list_dict, isi_tuple_NoneType, isi_tuple_bool, isi_tuple_int, isi_tuple_str, isi_tuple_tuple, isi_tuple_list, isi_tuple_dict, isi_dict_NoneType, isi_dict_bool, isi_dict_int, isi_dict_str, isi_dict_tuple, isi_dict_list, isi_dict_dict, List.map_cons, List.map_nil, List.cons_append, List.nil_append, List.length_cons, List.length_nil, List.replicate_succ, List.replicate_zero, Nat.reduceAdd, Nat.reduceSub, Nat.zero_add, true_and, and_true, Bool.not_true, Bool.not_false, Bool.true_or, Bool.or_true, Bool.false_or, Bool.or_false, if_true, if_false, Bool.false_eq_true])
      exact h0 _ (by simp [oldF_ap, h]) rfl
  · rw [en_old]
    (try simp only [wC_ap, wSetI_ap, wExpr_ap, wRet_ap, wRetN_ap, wRet0_ap, wIf_ap, wFor_ap, wWhile_ap, wBreak_ap, wCont_ap, wNever_ap, wPick_ap, wCallL_ap, wOp_ap, wIxO_ap, wNoPart_ap, wPart_ap, wSl_ap, wUn_ap, wTest_ap, wChain_ap, wTru_ap, wNotT_ap, wAndT_ap, wOrT_ap, wAnd_ap, wOr_ap, wNot_ap, wIfE_ap, wNil_ap, wCons_ap, wTup_ap, wLst_ap, wCall_ap, wCall0_ap, wCallIo_ap, wYes_ap, wGn_ap, wSr_ap, wEn_ap, wZp_ap, wRg1_ap, wRg2_ap, wLc_ap, wMeth_ap, wMeth0_ap, wNext_ap, wSeq_ap, wAsg_ap, wSet_ap, wV_ap, wPar_ap, par2_ap, wGnil_ap, wGcons_ap, wGtup_ap, sl_z, sl_s, set_z, set_s, wipe_z, wipe_s, rest_z, rest_s, oAdd_i, oAdd_t, oAdd_l, oAdd_s, oSub_i, oMul_i, oMul_t, oII_i, oII0_i, oIx_l, oIx_t, oIx_f, oIsN_n, oNotN_n, oLen_l, oLen_t, oLen_f, oInt_i, oInt_b, oI1_i, oNeg_i, oList_l, oList_t, oTuple_l, oTuple_t, oBs_l, oSl_l, oSl_t, oIsi_ap, oIsi2_ap, tyD_n, tyD_b, tyD_i, tyD_s, tyD_t, tyD_l, tyD_f, truD_n, truD_b, truD_i, truD_t, truD_l, asB_b, asI_i, asL_l, isL_l, isL_t, isL_i, isL_b, isL_n, itD_l, itD_t, itD_f, fApp_ap, fExt_ap, ex_some, onS_ap, ite_t, ite_f, bodyD_ap, ioD_c, start_ap, isi_int_NoneType, isi_int_bool, isi_int_int, isi_int_str, isi_int_tuple, isi_int_list, isi_int_dict, isi_bool_NoneType, isi_bool_bool, isi_bool_int, isi_bool_str, isi_bool_tuple, isi_bool_list, isi_bool_dict, isi_str_NoneType, isi_str_bool, isi_str_int, isi_str_str, isi_str_tuple, isi_str_list, isi_str_dict, isi_list_NoneType, isi_list_bool, isi_list_int, isi_list_str, isi_list_tuple, isi_list_list, isi_list_dict, isi_tuple_NoneType, isi_tuple_bool, isi_tuple_int, isi_tuple_str, isi_tuple_tuple, isi_tuple_list, isi_tuple_dict, isi_dict_NoneType, isi_dict_bool, isi_dict_int, isi_dict_str, isi_dict_tuple, isi_dict_list, isi_dict_dict, List.map_cons, List.map_nil, List.cons_append, List.nil_append, List.length_cons, List.length_nil, List.replicate_succ, List.replicate_zero, Nat.reduceAdd, Nat.reduceSub, Nat.zero_add, true_and, and_true, Bool.not_true, Bool.not_false, Bool.true_or, Bool.or_true, Bool.false_or, Bool.or_false, if_true, if_false, Bool.false_eq_true])
    refine ⟨(b, ss, n, at_), rfl, p, ?_⟩
    rintro r c' rfl
    (try simp only [wC_ap, wSetI_ap, wExpr_ap, wRet_ap, wRetN_ap, wRet0_ap, wIf_ap, wFor_ap, wWhile_ap, wBreak_ap, wCont_ap, wNever_ap, wPick_ap, wCallL_ap, wOp_ap, wIxO_ap, wNoPart_ap, wPart_ap, wSl_ap, wUn_ap, wTest_ap, wChain_ap, wTru_ap, wNotT_ap, wAndT_ap, wOrT_ap, wAnd_ap, wOr_ap, wNot_ap, wIfE_ap, wNil_ap, wCons_ap, wTup_ap, wLst_ap, wCall_ap, wCall0_ap, wCallIo_ap, wYes_ap, wGn_ap, wSr_ap, wEn_ap, wZp_ap, wRg1_ap, wRg2_ap, wLc_ap, wMeth_ap, wMeth0_ap, wNext_ap, wSeq_ap, wAsg_ap, wSet_ap, wV_ap, wPar_ap, par2_ap, wGnil_ap, wGcons_ap, wGtup_ap, sl_z, sl_s, set_z, set_s, wipe_z, wipe_s, rest_z, rest_s, oAdd_i, oAdd_t, oAdd_l, oAdd_s, oSub_i, oMul_i, oMul_t, oII_i, oII0_i, oIx_l, oIx_t, oIx_f, oIsN_n, oNotN_n, oLen_l, oLen_t, oLen_f, oInt_i, oInt_b, oI1_i, oNeg_i, oList_l, oList_t, oTuple_l, oTuple_t, oBs_l, oSl_l, oSl_t, oIsi_ap, oIsi2_ap, tyD_n, tyD_b, tyD_i, tyD_s, tyD_t, tyD_l, tyD_f, truD_n, truD_b, truD_i, truD_t, truD_l, asB_b, asI_i, asL_l, isL_l, isL_t, isL_i, isL_b, isL_n, itD_l, itD_t, itD_f, fApp_ap, fExt_ap, ex_some, onS_ap, ite_t, ite_f, bodyD_ap, ioD_c, start_ap, isi_int_NoneType, isi_int_bool, isi_int_int, isi_int_str, isi_int_tuple, isi_int_list, isi_int_dict, isi_bool_NoneType, isi_bool_bool, isi_bool_int, isi_bool_str, isi_bool_tuple, isi_bool_list, isi_bool_dict, isi_str_NoneType, isi_str_bool, isi_str_int, isi_str_str, isi_str_tuple, isi_str_list, isi_str_dict, isi_list_NoneType, isi_list_bool, isi_list_int, isi_list_str, isi_list_tuple, isi_list_list, isi_list_dict, isi_tuple_NoneType, isi_tuple_bool, isi_tuple_int, isi_tuple_str, isi_tuple_tuple, isi_tuple_list, isi_tuple_dict, isi_dict_NoneType, isi_dict_bool, isi_dict_int, isi_dict_str, isi_dict_tuple, isi_dict_list, isi_dict_dict, List.map_cons, List.map_nil, List.cons_append, List.nil_append, List.length_cons, List.length_nil, List.replicate_succ, List.replicate_zero, Nat.reduceAdd, Nat.reduceSub, Nat.zero_add, true_and, and_true, Bool.not_true, Bool.not_false, Bool.true_or, Bool.or_true, Bool.false_or, Bool.or_false, if_true, if_false, Bool.false_eq_true])
    refine for_inv (fun pre ε => ∃ o3 o4 ps, pre = List.map nn ps ∧ ε = [some (sq b (ss.map tI)), some (.int at_), some (.lst ((oldRows at_ 0 ss ++ List.map (pairRow ss at_) ps).map rowD)), o3, o4, none, none, none]) ?_ ?_ ⟨none, none, [], rfl, by simp⟩
    · rintro pre d r ε e ⟨o3, o4, ps, hpre, rfl⟩ N hN
      obtain ⟨⟨l, h⟩, hp, rfl⟩ := mid e
      have hln := mid_len e
      rw [hpre, List.length_map] at hln
      have hpl := pairs_len (at_ := at_) hfew
      have hol := old_len at_ 0 ss
      have hlt := pairs_lt hp
      have ml := getD_mem hlt.1
      have mh := getD_mem hlt.2
      unfold nn
      (try simp only [wC_ap, wSetI_ap, wExpr_ap, wRet_ap, wRetN_ap, wRet0_ap, wIf_ap, wFor_ap, wWhile_ap, wBreak_ap, wCont_ap, wNever_ap, wPick_ap, wCallL_ap, wOp_ap, wIxO_ap, wNoPart_ap, wPart_ap, wSl_ap, wUn_ap, wTest_ap, wChain_ap, wTru_ap, wNotT_ap, wAndT_ap, wOrT_ap, wAnd_ap, wOr_ap, wNot_ap, wIfE_ap, wNil_ap, wCons_ap, wTup_ap, wLst_ap, wCall_ap, wCall0_ap, wCallIo_ap, wYes_ap, wGn_ap, wSr_ap, wEn_ap, wZp_ap, wRg1_ap, wRg2_ap, wLc_ap, wMeth_ap, wMeth0_ap, wNext_ap, wSeq_ap, wAsg_ap, wSet_ap, wV_ap, wPar_ap, par2_ap, wGnil_ap, wGcons_ap, wGtup_ap, sl_z, sl_s, set_z, set_s, wipe_z, wipe_s, rest_z, rest_s, oAdd_i, oAdd_t, oAdd_l, oAdd_s, oSub_i, oMul_i, oMul_t, oII_i, oII0_i, oIx_l, oIx_t, oIx_f, oIsN_n, oNotN_n, oLen_l, oLen_t, oLen_f, oInt_i, oInt_b, oI1_i, oNeg_i, oList_l, oList_t, oTuple_l, oTuple_t, oBs_l, oSl_l, oSl_t, oIsi_ap, oIsi2_ap, tyD_n, tyD_b, tyD_i, tyD_s, tyD_t, tyD_l, tyD_f, truD_n, truD_b, truD_i, truD_t, truD_l, asB_b, asI_i, asL_l, isL_l, isL_t, isL_i, isL_b, isL_n, itD_l, itD_t, itD_f, fApp_ap, fExt_ap, ex_some, onS_ap, ite_t, ite_f, bodyD_ap, ioD_c, start_ap, isi_int_NoneType, isi_int_bool, isi_int_int, isi_int_str, isi_int_tuple, isi_int_list, isi_int_dict, isi_bool_NoneType, isi_bool_bool, isi_bool_int, isi_bool_str, isi_bool_tuple, isi_bool_list, isi_bool_dict, isi_str_NoneType, isi_str_bool, isi_str_int, isi_str_str, isi_str_tuple, isi_str_list, isi_str_dict, isi_list_NoneType, isi_list_bool, isi_list_int, isi_list_str, isi_list_tuple, isi_list_list, isi_list_dict, isi_tuple_NoneType, isi_tuple_bool, isi_tuple_int, isi_tuple_str, isi_tuple_tuple, isi_tuple_list, isi_tuple_dict, isi_dict_NoneType, isi_dict_bool, isi_dict_int, isi_dict_str, isi_dict_tuple, isi_dict_list, isi_dict_dict, List.map_cons, List.map_nil, List.cons_append, List.nil_append, List.length_cons, List.length_nil, List.replicate_succ, List.replicate_zero, Nat.reduceAdd, Nat.reduceSub, Nat.zero_add, true_and, and_true, Bool.not_true, Bool.not_false, Bool.true_or, Bool.or_true, Bool.false_or, Bool.or_false, if_true, if_false, Bool.false_eq_true, oIx_sq, ix_sums hlt.1, ix_sums hlt.2])
      refine ⟨(ss.getD l [], ss.getD h [], at_), rfl, ⟨p.sum ml, ?_, ?_, p.sm _ ml, p.sm _ mh⟩, ?_⟩
      · show (ss.getD l []).length = (ss.getD h []).length
        rw [p.len _ ml, p.len _ mh]
      · show at_ < (ss.getD l []).length
        rw [p.len _ ml]; omega
      rintro r c' rfl
      have pp := pair_pl p ml mh
      refine ⟨((pairS (ss.getD l []) (ss.getD h []) at_).dropLast, (pairS (ss.getD l []) (ss.getD h []) at_).getLastD 0), ?_, pp.pre, ?_⟩
      · show [tI (pairS (ss.getD l []) (ss.getD h []) at_)] = [tI ((pairS (ss.getD l []) (ss.getD h []) at_).dropLast ++ [(pairS (ss.getD l []) (ss.getD h []) at_).getLastD 0])]
        rw [split_last pp.ne]
      rintro r c' rfl
      refine ⟨small_z (by decide), small_z (by decide), ?_, ?_⟩
      · simp only [List.length_map, List.length_append]
        exact Nat.lt_of_le_of_lt (show _ ≤ 10100 by omega) (by rw [sizeLine_eq]; decide)
      · refine hN _ ⟨some (.int l), some (.int h), ps ++ [(l, h)], by rw [hpre]; simp [nn], ?_⟩
        simp [rowD, pairRow, Mk.d, plainR]
    · rintro ε ⟨o3, o4, ps, hpre, rfl⟩
      have hps : ps = pairsOf ss at_ := by
        have := congrArg (List.map fun d => match d with | D.tup [.int a, .int b] => (a.toNat, b.toNat) | _ => (0, 0)) hpre
        simpa [List.map_map, Function.comp_def, nn] using this.symm
      subst hps
      have hpl := pairs_len (at_ := at_) hfew
      have hol := old_len at_ 0 ss
      (try simp only [wC_ap, wSetI_ap, wExpr_ap, wRet_ap, wRetN_ap, wRet0_ap, wIf_ap, wFor_ap, wWhile_ap, wBreak_ap, wCont_ap, wNever_ap, wPick_ap, wCallL_ap, wOp_ap, wIxO_ap, wNoPart_ap, wPart_ap, wSl_ap, wUn_ap, wTest_ap, wChain_ap, wTru_ap, wNotT_ap, wAndT_ap, wOrT_ap, wAnd_ap, wOr_ap, wNot_ap, wIfE_ap, wNil_ap, wCons_ap, wTup_ap, wLst_ap, wCall_ap, wCall0_ap, wCallIo_ap, wYes_ap, wGn_ap, wSr_ap, wEn_ap, wZp_ap, wRg1_ap, wRg2_ap, wLc_ap, wMeth_ap, wMeth0_ap, wNext_ap, wSeq_ap, wAsg_ap, wSet_ap, wV_ap, wPar_ap, par2_ap, wGnil_ap, wGcons_ap, wGtup_ap, sl_z, sl_s, set_z, set_s, wipe_z, wipe_s, rest_z, rest_s, oAdd_i, oAdd_t, oAdd_l, oAdd_s, oSub_i, oMul_i, oMul_t, oII_i, oII0_i, oIx_l, oIx_t, oIx_f, oIsN_n, oNotN_n, oLen_l, oLen_t, oLen_f, oInt_i, oInt_b, oI1_i, oNeg_i, oList_l, oList_t, oTuple_l, oTuple_t, oBs_l, oSl_l, oSl_t, oIsi_ap, oIsi2_ap, tyD_n, tyD_b, tyD_i, tyD_s, tyD_t, tyD_l, tyD_f, truD_n, truD_b, truD_i, truD_t, truD_l, asB_b, asI_i, asL_l, isL_l, isL_t, isL_i, isL_b, isL_n, itD_l, itD_t, itD_f, fApp_ap, fExt_ap, ex_some, onS_ap, ite_t, ite_f, bodyD_ap, ioD_c, start_ap, isi_int_NoneType, isi_int_bool, isi_int_int, isi_int_str, isi_int_tuple, isi_int_list, isi_int_dict, isi_bool_NoneType, isi_bool_bool, isi_bool_int, isi_bool_str, isi_bool_tuple, isi_bool_list, isi_bool_dict, isi_str_NoneType, isi_str_bool, isi_str_int, isi_str_str, isi_str_tuple, isi_str_list, isi_str_dict, isi_list_NoneType, isi_list_bool, isi_list_int, isi_list_str, isi_list_tuple, isi_list_list, isi_list_dict, isi_tuple_NoneType, isi_tuple_bool, isi_tuple_int, isi_tuple_str, isi_tuple_tuple, isi_tuple_list, isi_tuple_dict, isi_dict_NoneType, isi_dict_bool, isi_dict_int, isi_dict_str, isi_dict_tuple, isi_dict_list, isi_dict_dict, List.map_cons, List.map_nil, List.cons_append, List.nil_append, List.length_cons, List.length_nil, List.replicate_succ, List.replicate_zero, Nat.reduceAdd, Nat.reduceSub, Nat.zero_add, true_and, and_true, Bool.not_true, Bool.not_false, Bool.true_or, Bool.or_true, Bool.false_or, Bool.or_false, if_true, if_false, Bool.false_eq_true])
      refine ⟨?_, lc_fm (fun d => match d with | .tup [t, _] => if isZ (intsD t) = true then none else some d | _ => none) ?_ ?_⟩
      · simp only [List.length_map, List.length_append]
        exact small_z (by omega)
      · intro d hd K1 K0 h1 h0
        obtain ⟨⟨t, m⟩, hr, rfl⟩ := List.mem_map.mp hd
        have hlen := rowsAll_len p _ hr
        have hlen' : t.length = n + 1 := hlen
        unfold rowD
        (try simp only [wC_ap, wSetI_ap, wExpr_ap, wRet_ap, wRetN_ap, wRet0_ap, wIf_ap, wFor_ap, wWhile_ap, wBreak_ap, wCont_ap, wNever_ap, wPick_ap, wCallL_ap, wOp_ap, wIxO_ap, wNoPart_ap, wPart_ap, wSl_ap, wUn_ap, wTest_ap, wChain_ap, wTru_ap, wNotT_ap, wAndT_ap, wOrT_ap, wAnd_ap, wOr_ap, wNot_ap, wIfE_ap, wNil_ap, wCons_ap, wTup_ap, wLst_ap, wCall_ap, wCall0_ap, wCallIo_ap, wYes_ap, wGn_ap, wSr_ap, wEn_ap, wZp_ap, wRg1_ap, wRg2_ap, wLc_ap, wMeth_ap, wMeth0_ap, wNext_ap, wSeq_ap, wAsg_ap, wSet_ap, wV_ap, wPar_ap, par2_ap, wGnil_ap, wGcons_ap, wGtup_ap, sl_z, sl_s, set_z, set_s, wipe_z, wipe_s, rest_z, rest_s, oAdd_i, oAdd_t, oAdd_l, oAdd_s, oSub_i, oMul_i, oMul_t, oII_i, oII0_i, oIx_l, oIx_t, oIx_f, oIsN_n, oNotN_n, oLen_l, oLen_t, oLen_f, oInt_i, oInt_b, oI1_i, oNeg_i, oList_l, oList_t, oTuple_l, oTuple_t, oBs_l, oSl_l, oSl_t, oIsi_ap, oIsi2_ap, tyD_n, tyD_b, tyD_i, tyD_s, tyD_t, tyD_l, tyD_f, truD_n, truD_b, truD_i, truD_t, truD_l, asB_b, asI_i, asL_l, isL_l, isL_t, isL_i, isL_b, isL_n, itD_l, itD_t, itD_f, fApp_ap, fExt_ap, ex_some, onS_ap, ite_t, ite_f, bodyD_ap, ioD_c, start_ap, isi_int_NoneType, isi_int_bool, isi_int_int, isi_int_str, isi_int_tuple, isi_int_list, isi_int_dict, isi_bool_NoneType, isi_bool_bool, isi_bool_int, isi_bool_str, isi_bool_tuple, isi_bool_list, isi_bool_dict, isi_str_NoneType, isi_str_bool, isi_str_int, isi_str_str, isi_str_tuple, isi_str_list, isi_str_dict, isi_list_NoneType, isi_list_bool, isi_list_int, isi_list_str, isi_list_tuple, isi_list_list, isi_list_dict, isi_tuple_NoneType, isi_tuple_bool, isi_tuple_int, isi_tuple_str, isi_tuple_tuple, isi_tuple_list, isi_tuple_dict, isi_dict_NoneType, isi_dict_bool, isi_dict_int, isi_dict_str, isi_dict_tuple, isi_dict_list, isi_dict_dict, List.map_cons, List.map_nil, List.cons_append, List.nil_append, List.length_cons, List.length_nil, List.replicate_succ, List.replicate_zero, Nat.reduceAdd, Nat.reduceSub, Nat.zero_add, true_and, and_true, Bool.not_true, Bool.not_false, Bool.true_or, Bool.or_true, Bool.false_or, Bool.or_false, if_true, if_false, Bool.false_eq_true, atI_z])
        refine ⟨t, rfl, ⟨by omega, by have := p.n10; omega⟩, ?_⟩
        rintro r c' rfl
        cases hz : isZ t with
        | true =>
          (try simp only [wC_ap, wSetI_ap, wExpr_ap, wRet_ap, wRetN_ap, wRet0_ap, wIf_ap, wFor_ap, wWhile_ap, wBreak_ap, wCont_ap, wNever_ap, wPick_ap, wCallL_ap, wOp_ap, wIxO_ap, wNoPart_ap, wPart_ap, wSl_ap, wUn_ap, wTest_ap, wChain_ap, wTru_ap, wNotT_ap, wAndT_ap, wOrT_ap, wAnd_ap, wOr_ap, wNot_ap, wIfE_ap, wNil_ap, wCons_ap, wTup_ap, wLst_ap, wCall_ap, wCall0_ap, wCallIo_ap, wYes_ap, wGn_ap, wSr_ap, wEn_ap, wZp_ap, wRg1_ap, wRg2_ap, wLc_ap, wMeth_ap, wMeth0_ap, wNext_ap, wSeq_ap, wAsg_ap, wSet_ap, wV_ap, wPar_ap, par2_ap, wGnil_ap, wGcons_ap, wGtup_ap, sl_z, sl_s, set_z, set_s, wipe_z, wipe_s, rest_z, rest_s, oAdd_i, oAdd_t, oAdd_l, oAdd_s, oSub_i, oMul_i, oMul_t, oII_i, oII0_i, oIx_l, oIx_t, oIx_f, oIsN_n, oNotN_n, oLen_l, oLen_t, oLen_f, oInt_i, oInt_b, oI1_i, oNeg_i, oList_l, oList_t, oTuple_l, oTuple_t, oBs_l, oSl_l, oSl_t, oIsi_ap, oIsi2_ap, tyD_n, tyD_b, tyD_i, tyD_s, tyD_t, tyD_l, tyD_f, truD_n, truD_b, truD_i, truD_t, truD_l, asB_b, asI_i, asL_l, isL_l, isL_t, isL_i, isL_b, isL_n, itD_l, itD_t, itD_f, fApp_ap, fExt_ap, ex_some, onS_ap, ite_t, ite_f, bodyD_ap, ioD_c, start_ap, isi_int_NoneType, isi_int_bool, isi_int_int, isi_int_str, isi_int_tuple, isi_int_list, isi_int_dict, isi_bool_NoneType, isi_bool_bool, isi_bool_int, isi_bool_str, isi_bool_tuple, isi_bool_list, isi_bool_dict, isi_str_NoneType, isi_str_bool, isi_str_int, isi_str_str, isi_str_tuple, isi_str_list, isi_str_dict, isi_list_NoneType, isi_list_bool, isi_list_int, isi_list_str, isi_list_tuple, isi_list_list, isi_list_dict, isi_tuple_NoneType, isi_tuple_bool, isi_tuple_int, isi_tuple_str, isi_tuple_tuple, isi_tuple_list, isi_tuple_dict, isi_dict_NoneType, isi_dict_bool, isi_dict_int, isi_dict_str, isi_dict_tuple, isi_dict_list, isi_dict_dict, List.map_cons, List.map_nil, List.cons_append, List.nil_append, List.length_cons, List.length_nil, List.replicate_succ, List.replicate_zero, Nat.reduceAdd, Nat.reduceSub, Nat.zero_add, true_and, and_true, Bool.not_true, Bool.not_false, Bool.true_or, Bool.or_true, Bool.false_or, Bool.or_false, if_true, if_false, Bool.false_eq_true])
          exact h0 _ (by simp [rowD, intsD_tI, hz]) rfl
        | false =>
          (try simp only [wC_ap, wSetI_ap, wExpr_ap, wRet_ap, wRetN_ap, wRet0_ap, wIf_ap, wFor_ap, wWhile_ap, wBreak_ap, wCont_ap, wNever_ap, wPick_ap, wCallL_ap, wOp_ap, wIxO_ap, wNoPart_ap, wPart_ap, wSl_ap, wUn_ap, wTest_ap, wChain_ap, wTru_ap, wNotT_ap, wAndT_ap, wOrT_ap, wAnd_ap, wOr_ap, wNot_ap, wIfE_ap, wNil_ap, wCons_ap, wTup_ap, wLst_ap, wCall_ap, wCall0_ap, wCallIo_ap, wYes_ap, wGn_ap, wSr_ap, wEn_ap, wZp_ap, wRg1_ap, wRg2_ap, wLc_ap, wMeth_ap, wMeth0_ap, wNext_ap, wSeq_ap, wAsg_ap, wSet_ap, wV_ap, wPar_ap, par2_ap, wGnil_ap, wGcons_ap, wGtup_ap, sl_z, sl_s, set_z, set_s, wipe_z, wipe_s, rest_z, rest_s, oAdd_i, oAdd_t, oAdd_l, oAdd_s, oSub_i, oMul_i, oMul_t, oII_i, oII0_i, oIx_l, oIx_t, oIx_f, oIsN_n, oNotN_n, oLen_l, oLen_t, oLen_f, oInt_i, oInt_b, oI1_i, oNeg_i, oList_l, oList_t, oTuple_l, oTuple_t, oBs_l, oSl_l, oSl_t, oIsi_ap, oIsi2_ap, tyD_n, tyD_b, tyD_i, tyD_s, tyD_t, tyD_l, tyD_f, truD_n, truD_b, truD_i, truD_t, truD_l, asB_b, asI_i, asL_l, isL_l, isL_t, isL_i, isL_b, isL_n, itD_l, itD_t, itD_f, fApp_ap, fExt_ap, ex_some, onS_ap, ite_t, ite_f, bodyD_ap, ioD_c, start_ap, isi_int_NoneType, isi_int_bool, isi_int_int, isi_int_str, isi_int_tuple, isi_int_list, isi_int_dict, isi_bool_NoneType, isi_bool_bool, isi_bool_int, isi_bool_str, isi_bool_tuple, isi_bool_list, isi_bool_dict, isi_str_NoneType, isi_str_bool, isi_str_int, isi_str_str, isi_str_tuple, isi_str_list, isi_str_dict, isi_list_NoneType, isi_list_bool, isi_list_int, isi_list_str, isi_list_tuple, isi_list_list, isi_list_dict, isi_tuple_NoneType, isi_tuple_bool, isi_tuple_int, isi_tuple_str, isi_tuple_tuple, isi_tuple_list, isi_tuple_dict, isi_dict_NoneType, isi_dict_bool, isi_dict_int, isi_dict_str, isi_dict_tuple, isi_dict_list, isi_dict_dict, List.map_cons, List.map_nil, List.cons_append, List.nil_append, List.length_cons, List.length_nil, List.replicate_succ, List.replicate_zero, Nat.reduceAdd, Nat.reduceSub, Nat.zero_add, true_and, and_true, Bool.not_true, Bool.not_false, Bool.true_or, Bool.or_true, Bool.false_or, Bool.or_false, if_true, if_false, Bool.false_eq_true])
          exact h1 _ _ (by simp [rowD, intsD_tI, hz]) rfl
      · have hF : ((oldRows at_ 0 ss ++ (pairsOf ss at_).map (pairRow ss at_)).map rowD).filterMap (fun d => match d with | .tup [t, _] => if isZ (intsD t) = true then none else some d | _ => none) = (rowsOf ss at_).map rowD := by
          unfold rowsOf
          generalize (oldRows at_ 0 ss ++ (pairsOf ss at_).map (pairRow ss at_)) = xs
          induction xs with
          | nil => rfl
          | cons x xs ih =>
            rw [List.map_cons, List.filterMap_cons, ih, List.filter_cons]
            unfold rowD
            simp only [intsD_tI]
            cases isZ x.1 <;> simp
        rw [hF]
        (try simp only [wC_ap, wSetI_ap, wExpr_ap, wRet_ap, wRetN_ap, wRet0_ap, wIf_ap, wFor_ap, wWhile_ap, wBreak_ap, wCont_ap, wNever_ap, wPick_ap, wCallL_ap, wOp_ap, wIxO_ap, wNoPart_ap, wPart_ap, wSl_ap, wUn_ap, wTest_ap, wChain_ap, wTru_ap, wNotT_ap, wAndT_ap, wOrT_ap, wAnd_ap, wOr_ap, wNot_ap, wIfE_ap, wNil_ap, wCons_ap, wTup_ap, wLst_ap, wCall_ap, wCall0_ap, wCallIo_ap, wYes_ap, wGn_ap, wSr_ap, wEn_ap, wZp_ap, wRg1_ap, wRg2_ap, wLc_ap, wMeth_ap, wMeth0_ap, wNext_ap, wSeq_ap, wAsg_ap, wSet_ap, wV_ap, wPar_ap, par2_ap, wGnil_ap, wGcons_ap, wGtup_ap, sl_z, sl_s, set_z, set_s, wipe_z, wipe_s, rest_z, rest_s, oAdd_i, oAdd_t, oAdd_l, oAdd_s, oSub_i, oMul_i, oMul_t, oII_i, oII0_i, oIx_l, oIx_t, oIx_f, oIsN_n, oNotN_n, oLen_l, oLen_t, oLen_f, oInt_i, oInt_b, oI1_i, oNeg_i, oList_l, oList_t, oTuple_l, oTuple_t, oBs_l, oSl_l, oSl_t, oIsi_ap, oIsi2_ap, tyD_n, tyD_b, tyD_i, tyD_s, tyD_t, tyD_l, tyD_f, truD_n, truD_b, truD_i, truD_t, truD_l, asB_b, asI_i, asL_l, isL_l, isL_t, isL_i, isL_b, isL_n, itD_l, itD_t, itD_f, fApp_ap, fExt_ap, ex_some, onS_ap, ite_t, ite_f, bodyD_ap, ioD_c, start_ap, isi_int_NoneType, isi_int_bool, isi_int_int, isi_int_str, isi_int_tuple, isi_int_list, isi_int_dict, isi_bool_NoneType, isi_bool_bool, isi_bool_int, isi_bool_str, isi_bool_tuple, isi_bool_list, isi_bool_dict, isi_str_NoneType, isi_str_bool, isi_str_int, isi_str_str, isi_str_tuple, isi_str_list, isi_str_dict, isi_list_NoneType, isi_list_bool, isi_list_int, isi_list_str, isi_list_tuple, isi_list_list, isi_list_dict, isi_tuple_NoneType, isi_tuple_bool, isi_tuple_int, isi_tuple_str, isi_tuple_tuple, isi_tuple_list, isi_tuple_dict, isi_dict_NoneType, isi_dict_bool, isi_dict_int, isi_dict_str, isi_dict_tuple, isi_dict_list, isi_dict_dict, List.map_cons, List.map_nil, List.cons_append, List.nil_append, List.length_cons, List.length_nil, List.replicate_succ, List.replicate_zero, Nat.reduceAdd, Nat.reduceSub, Nat.zero_add, true_and, and_true, Bool.not_true, Bool.not_false, Bool.true_or, Bool.or_true, Bool.false_or, Bool.or_false, if_true, if_false, Bool.false_eq_true])
        exact q _ _ rfl
end K51
set_option Elab.async false
set_option linter.all false
set_option maxRecDepth 100000
set_option maxHeartbeats 4000000
namespace K51
open PySem PySem.Spec L2 DL
open PyProof.Rows hiding St
/-! ### the law's own defs -/
def IsBox (d : D) : Prop := ∃ b0 b1 b2 : Int, d = .lst [.int b0, .int b1, .int b2] ∧ 0 ≤ b1 ∧ b1 < 2147483648
def f_law_cell_at : DFn := fnX (α := List Int × Nat) (fun x => [.frz (x.1.map D.int), .int x.2]) (fun _ => True) (fun _ r => ∃ z : Int, r = .int z)
theorem m_law_cell_at : FMono f_law_cell_at := fnX_mono
def f_law_box : DFn := fnX (α := Int) (fun z => [.int z]) (fun _ => True) (fun _ r => IsBox r)
theorem m_law_box : FMono f_law_box := fnX_mono
def f_law_take : DFn := fnY (α := D × Int) (fun x => [x.1, .int x.2]) (fun x => IsBox x.1 ∧ 0 < x.2 ∧ x.2 < 1073741824) (fun x r c' => (∃ z : Nat, r = .int z ∧ (z : Int) < x.2) ∧ IsBox c')
theorem m_law_take : FMono f_law_take := fnY_mono
def dot : List Int → List Int → Int
  | f :: fs, p :: ps => f * p + dot fs ps
  | _, _ => 0
def small8 (ns : List Int) : Prop := ∀ z ∈ ns, z.natAbs ≤ 100000000
def f_law_worth : DFn := fnX (α := List Int × Int × List Int) (fun x => [tI (x.1 ++ [x.2.1]), tI x.2.2]) (fun x => x.1.length = x.2.2.length ∧ x.1.length ≤ 100 ∧ small8 x.1) (fun x r => r = .int (x.2.1 + dot x.1 x.2.2))
theorem m_law_worth : FMono f_law_worth := fnX_mono
def f_law_plain : DFn := fnX (α := List Int × Int) (fun x => [tI (x.1 ++ [x.2])]) (fun x => x.1.length ≤ 10 ∧ small8 x.1) (fun x r => r = tI (plainS x.1 x.2))
theorem m_law_plain : FMono f_law_plain := fnX_mono
structure Sums (ss : List (List Int)) (n k : Nat) : Prop where
  num : ss.length = k
  len : ∀ s ∈ ss, s.length = n + 1
  sm : ∀ s ∈ ss, ∀ z ∈ s, -1000 ≤ z ∧ z ≤ 1000
def f_law_sums : DFn := fnY (α := D × Nat × Nat) (fun x => [x.1, .int x.2.1, .int x.2.2]) (fun x => IsBox x.1 ∧ 1 ≤ x.2.1 ∧ x.2.1 ≤ 10 ∧ 1 ≤ x.2.2 ∧ x.2.2 ≤ 60) (fun x r c' => (∃ ss, r = .lst (ss.map tI) ∧ Sums ss x.2.1 x.2.2) ∧ IsBox c')
theorem m_law_sums : FMono f_law_sums := fnY_mono
def f_law_cast : DFn := fnX (α := List (List Int) × Nat × Nat) (fun x => [.lst (x.1.map tI), .int x.2.2]) (fun x => CastOk x.1 x.2.1 x.2.2) (fun x r => ∃ ps, r = .tup [.lst ((rowsOf x.1 x.2.2).map rowD), .lst ps])
theorem m_law_cast : FMono f_law_cast := fnX_mono
def worthR (s ps : List Int) : Int := s.getLastD 0 + dot s.dropLast ps
def keptB (ss : List (List Int)) (ps : List Int) : Bool := ss.all fun s => decide (worthR s ps ≤ 0)
def f_law_kept : DFn := fnX (α := List (List Int) × List Int) (fun x => [.lst (x.1.map tI), tI x.2]) (fun x => x.1.length ≤ 1000000 ∧ x.2.length ≤ 100 ∧ ∀ s ∈ x.1, s.length = x.2.length + 1 ∧ small8 s.dropLast) (fun x r => r = .bl (keptB x.1 x.2))
theorem m_law_kept : FMono f_law_kept := fnX_mono
def f_law_right : DFn := fnY (α := D × List (List Int) × Nat × Nat) (fun x => [x.1, .lst (x.2.1.map tI), .int x.2.2.2]) (fun x => IsBox x.1 ∧ CastOk x.2.1 x.2.2.1 x.2.2.2) (fun _ r c' => r = .bl true ∧ IsBox c')
theorem m_law_right : FMono f_law_right := fnY_mono
def f_law : DFn := fnX (α := List Int) (fun ns => [.frz (ns.map D.int)]) (fun ns => ns.length ≤ 63) (fun _ r => r = .bl true)
theorem m_law : FMono f_law := fnX_mono
end K51
set_option Elab.async false
set_option linter.all false
set_option maxRecDepth 100000
set_option maxHeartbeats 4000000
namespace K51
open PySem PySem.Spec L2 DL
open PyProof.Rows hiding St
-- slots ['_law_script', '_law_k'], pu
def b_law_cell_at : DTS := (wSeq (wIf (wTest (wOp oLt (wV 1) (wUn oLen (wV 0)))) (wSeq (wRet (wOp oIx (wV 0) (wV 1))) wNext) wNext) (wSeq (wRet (wOp oAdd (wOp oMul (wC (.int 7919)) (wV 1)) (wC (.int 13)))) wNext))
-- slots ['_law_cell'], fr
def b_law_box : DTS := (wSeq (wIf (wTest (wOp oGe (wV 0) (wOp oPow (wC (.int 10)) (wC (.int 18))))) (wSeq (wRet (wLst (wCons (wV 0) (wCons (wOp oMod (wV 0) (wC (.int 2147483629))) (wCons (wC (.int 0)) wNil))))) wNext) wNext) (wSeq (wRet (wLst (wCons (wC (.int 0)) (wCons (wOp oMod (wV 0) (wC (.int 2147483629))) (wCons (wC (.int 0)) wNil))))) wNext))
-- slots ['_law_box_here', '_law_many', '_law_number', '_law_digit'], io, pu
def b_law_take : DTS := (wSeq (wIf (wTest (wOp oGt (wOp oIx (wV 0) (wC (.int 0))) (wC (.int 0)))) (wSeq (wSet 3 (wOp oMod (wOp oIx (wV 0) (wC (.int 0))) (wV 1))) (wSeq (wSetI 0 (wOp oFdiv (wOp oIx (wV 0) (wC (.int 0))) (wV 1)) (wC (.int 0))) (wSeq (wRet (wV 3)) wNext))) wNext) (wSeq (wSetI 0 (wOp oAdd (wOp oIx (wV 0) (wC (.int 2))) (wC (.int 1))) (wC (.int 2))) (wSeq (wSet 2 (wOp oMod (wOp oAdd (wOp oAdd (wOp oMul (wOp oIx (wV 0) (wC (.int 1))) (wOp oAdd (wC (.int 48271)) (wOp oMul (wC (.int 2)) (wOp oIx (wV 0) (wC (.int 2)))))) (wOp oMul (wC (.int 7919)) (wOp oIx (wV 0) (wC (.int 2))))) (wC (.int 101))) (wC (.int 2147483647)))) (wSeq (wRet (wOp oMod (wOp oFdiv (wOp oMod (wOp oPow (wV 2) (wC (.int 3))) (wC (.int 2147483629))) (wC (.int 8))) (wV 1))) wNext))))
-- slots ['_law_one', '_law_point', '_law_total', '_law_place', '_law_worth_here'], pu
def b_law_worth : DTS := (wSeq (wSet 2 (wOp oIx (wV 0) (wUn oLen (wV 1)))) (wSeq (wFor (wEn (wV 1)) (wGtup 2 (wGcons (wGn 3) (wGcons (wGn 4) wGnil))) (wSeq (wSet 2 (wOp oAdd (wV 2) (wOp oMul (wOp oIx (wV 0) (wV 3)) (wV 4)))) wNext)) (wSeq (wRet (wV 2)) wNext)))
-- slots ['_law_one', '_law_by', '_law_factor', '_law_left', '_law_other'], pu
def b_law_plain : DTS := (wSeq (wSet 1 (wC (.int 0))) (wSeq (wFor (wSr (wSl (wV 0) wNoPart (wPart (wUn oNeg (wC (.int 1)))))) (wGn 2) (wSeq (wPar 3 4 (wCons (wV 1) (wCons (wUn oAbs (wV 2)) wNil))) (wSeq (wWhile (wTest (wOp oGt (wV 4) (wC (.int 0)))) (wSeq (wPar 3 4 (wCons (wV 4) (wCons (wOp oSub (wV 3) (wOp oMul (wOp oFdiv (wV 3) (wV 4)) (wV 4))) wNil))) wNext)) (wSeq (wSet 1 (wV 3)) wNext)))) (wSeq (wIf (wTest (wOp oEq (wV 1) (wC (.int 0)))) (wSeq (wRet (wOp oAdd (wSl (wV 0) wNoPart (wPart (wUn oNeg (wC (.int 1))))) (wTup (wCons (wUn oInt (wOp oGt (wOp oIx (wV 0) (wUn oNeg (wC (.int 1)))) (wC (.int 0)))) wNil)))) wNext) wNext) (wSeq (wRet (wOp oAdd (wUn oTuple (wLc [2] (wSr (wSl (wV 0) wNoPart (wPart (wUn oNeg (wC (.int 1)))))) (wGn 2) wYes (wOp oFdiv (wV 2) (wV 1)))) (wTup (wCons (wOp oSub (wC (.int 0)) (wOp oFdiv (wOp oSub (wC (.int 0)) (wOp oIx (wV 0) (wUn oNeg (wC (.int 1))))) (wV 1))) wNil)))) wNext))))
-- slots ['_law_box_here', '_law_size', '_law_many', '_law_found', '_law_wide', '_law_k', '_law_factors', '_law_place', '_law_factor'], io, fr
def b_law_sums : DTS := (wSeq (wSet 3 (wLst wNil)) (wSeq (wSet 4 (wOp oIx (wLst (wCons (wC (.int 3)) (wCons (wC (.int 7)) (wCons (wC (.int 13)) wNil)))) (wCallIo f_law_take 0 (wCons (wC (.int 3)) wNil)))) (wSeq (wFor (wRg1 (wV 2)) (wGn 5) (wSeq (wSet 6 (wLc [7] (wRg1 (wV 1)) (wGn 7) wYes (wOp oSub (wCallIo f_law_take 0 (wCons (wV 4) wNil)) (wOp oFdiv (wV 4) (wC (.int 2)))))) (wSeq (wIf (wTest (wOp oEq (wCallIo f_law_take 0 (wCons (wC (.int 6)) wNil)) (wC (.int 0)))) (wSeq (wSet 6 (wLc [8] (wSr (wV 6)) (wGn 8) wYes (wC (.int 0)))) wNext) wNext) (wSeq (wExpr (wMeth 3 (wUn oTuple (wOp oAdd (wV 6) (wLst (wCons (wOp oSub (wCallIo f_law_take 0 (wCons (wC (.int 41)) wNil)) (wC (.int 20))) wNil)))) fApp)) wNext)))) (wSeq (wRet (wV 3)) wNext))))
-- slots ['_law_sums_here', '_law_at', '_law_rows', '_law_place', '_law_one', '_law_pairs', '_law_low', '_law_high', '_law_other', '_law_pair', '_law_row', '_law_here', '_law_there', '_law_number'], pu
def b_law_cast : DTS := (wSeq (wSet 2 (wLst wNil)) (wSeq (wFor (wEn (wV 0)) (wGtup 2 (wGcons (wGn 3) (wGcons (wGn 4) wGnil))) (wSeq (wIf (wTest (wOp oEq (wOp oIx (wV 4) (wV 1)) (wC (.int 0)))) (wSeq (wExpr (wMeth 2 (wTup (wCons (wCall f_law_plain (wCons (wV 4) wNil)) (wCons (wTup (wCons (wC (.str "old")) (wCons (wV 3) wNil))) wNil))) fApp)) wNext) wNext) wNext)) (wSeq (wSet 5 (wLst wNil)) (wSeq (wFor (wEn (wV 0)) (wGtup 2 (wGcons (wGn 6) (wGcons (wGn 4) wGnil))) (wSeq (wFor (wEn (wV 0)) (wGtup 2 (wGcons (wGn 7) (wGcons (wGn 8) wGnil))) (wSeq (wIf (wTest (wChain oLt oLt (wOp oIx (wV 4) (wV 1)) (wC (.int 0)) (wOp oIx (wV 8) (wV 1)))) (wSeq (wSet 9 (wUn oTuple (wLc [11, 12] (wZp (wV 4) (wV 8)) (wGtup 2 (wGcons (wGn 11) (wGcons (wGn 12) wGnil))) wYes (wOp oSub (wOp oMul (wOp oIx (wV 8) (wV 1)) (wV 11)) (wOp oMul (wOp oIx (wV 4) (wV 1)) (wV 12)))))) (wSeq (wExpr (wMeth 5 (wTup (wCons (wV 6) (wCons (wV 7) (wCons (wV 9) wNil)))) fApp)) (wSeq (wExpr (wMeth 2 (wTup (wCons (wCall f_law_plain (wCons (wV 9) wNil)) (wCons (wTup (wCons (wC (.str "pair")) (wCons (wV 6) (wCons (wV 7) wNil)))) wNil))) fApp)) wNext))) wNext) wNext)) wNext)) (wSeq (wRet (wTup (wCons (wLc [10] (wSr (wV 2)) (wGn 10) (wTest (wOp oNe (wLc [13] (wSr (wOp oIx (wV 10) (wC (.int 0)))) (wGn 13) (wTest (wOp oNe (wV 13) (wC (.int 0)))) (wV 13)) (wLst wNil))) (wV 10)) (wCons (wV 5) wNil)))) wNext)))))
-- slots ['_law_sums_here', '_law_point', '_law_one'], pu
def b_law_kept : DTS := (wSeq (wRet (wOp oEq (wLc [2] (wSr (wV 0)) (wGn 2) (wTest (wOp oGt (wCall f_law_worth (wCons (wV 2) (wCons (wV 1) wNil))) (wC (.int 0)))) (wV 2)) (wLst wNil))) wNext)
-- slots ['_law_box_here', '_law_sums_here', '_law_at', '_law_rows', '_law_pairs', '_law_handed', '_law_found', '_law_turn', '_law_point', '_law_row', '_law_factor'], io, pu
def b_law_right : DTS := (wSeq (wAsg (wCall f_law_cast (wCons (wV 1) (wCons (wV 2) wNil))) (wGtup 2 (wGcons (wGn 3) (wGcons (wGn 4) wGnil)))) (wSeq (wSet 5 (wPick (wUn oList (wV 1)) (wUn oTuple (wV 1)) (wCallIo f_law_take 0 (wCons (wC (.int 2)) wNil)))) (wSeq (wSet 6 (wCallL f_cast_away 5 (wCons (wV 2) wNil))) (wSeq (wIf (wOrT (wNotT (wTru (wUn (oIsi "list") (wV 6)))) (wOrT (wTest (wOp oNe (wV 6) (wV 3))) (wTest (wOp oNe (wUn oList (wV 5)) (wV 1))))) (wSeq (wRet (wC (.bl false))) wNext) wNext) (wSeq (wIf (wTest (wOp oNe (wLc [9] (wSr (wV 6)) (wGn 9) (wOrT (wNotT (wTru (wUn (oIsi "tuple") (wOp oIx (wV 9) (wC (.int 0)))))) (wNotT (wTru (wUn (oIsi "tuple") (wOp oIx (wV 9) (wC (.int 1))))))) (wV 9)) (wLst wNil))) (wSeq (wRet (wC (.bl false))) wNext) wNext) (wSeq (wExpr (wMeth 6 (wC .non) fApp)) (wSeq (wExpr (wMeth0 6 List.reverse)) (wSeq (wIf (wTru (wUn (oIsi "list") (wV 5))) (wSeq (wExpr (wMeth 5 (wC .non) fApp)) wNext) wNext) (wSeq (wIf (wTest (wOp oNe (wCall f_cast_away (wCons (wV 1) (wCons (wV 2) wNil))) (wV 3))) (wSeq (wRet (wC (.bl false))) wNext) wNext) (wSeq (wFor (wRg1 (wC (.int 12))) (wGn 7) (wSeq (wSet 8 (wUn oTuple (wLc [10] (wSr (wSl (wOp oIx (wV 1) (wC (.int 0))) wNoPart (wPart (wUn oNeg (wC (.int 1)))))) (wGn 10) wYes (wOp oSub (wCallIo f_law_take 0 (wCons (wC (.int 31)) wNil)) (wC (.int 15)))))) (wSeq (wIf (wAndT (wTru (wCall f_law_kept (wCons (wV 1) (wCons (wV 8) wNil)))) (wNotT (wTru (wCall f_law_kept (wCons (wLc [9] (wSr (wV 3)) (wGn 9) wYes (wOp oIx (wV 9) (wC (.int 0)))) (wCons (wV 8) wNil)))))) (wSeq (wRet (wC (.bl false))) wNext) wNext) wNext))) (wSeq (wRet (wC (.bl true))) wNext)))))))))))
-- slots ['_law_script', '_law_k', '_law_box_here', '_law_size', '_law_many', '_law_sums_here', '_law_turn', '_law_one'], pu
def b_law : DTS := (wSeq (wFor (wRg1 (wOp oMax2 (wC (.int 1)) (wOp oMin2 (wUn oLen (wV 0)) (wC (.int 12))))) (wGn 1) (wSeq (wSet 2 (wCall f_law_box (wCons (wCall f_law_cell_at (wCons (wV 0) (wCons (wV 1) wNil))) wNil))) (wSeq (wSet 3 (wOp oAdd (wC (.int 1)) (wCallIo f_law_take 2 (wCons (wC (.int 5)) wNil)))) (wSeq (wSet 4 (wOp oAdd (wC (.int 1)) (wCallIo f_law_take 2 (wCons (wC (.int 12)) wNil)))) (wSeq (wIf (wTest (wOp oEq (wCallIo f_law_take 2 (wCons (wC (.int 8)) wNil)) (wC (.int 0)))) (wSeq (wAsg (wTup (wCons (wC (.int 10)) (wCons (wC (.int 60)) wNil))) (wGtup 2 (wGcons (wGn 3) (wGcons (wGn 4) wGnil)))) wNext) wNext) (wSeq (wSet 5 (wCallIo f_law_sums 2 (wCons (wV 3) (wCons (wV 4) wNil)))) (wSeq (wIf (wTest (wOp oEq (wCallIo f_law_take 2 (wCons (wC (.int 8)) wNil)) (wC (.int 0)))) (wSeq (wSet 3 (wC (.int 1))) (wSeq (wSet 5 (wLc [7] (wSr (wV 5)) (wGn 7) wYes (wSl (wV 7) (wPart (wUn oNeg (wC (.int 2)))) wNoPart))) wNext)) wNext) (wSeq (wFor (wRg1 (wC (.int 2))) (wGn 6) (wSeq (wIf (wNotT (wTru (wCallIo f_law_right 2 (wCons (wV 5) (wCons (wCallIo f_law_take 2 (wCons (wV 3) wNil)) wNil))))) (wSeq (wRet (wC (.bl false))) wNext) wNext) wNext)) wNext)))))))) (wSeq (wRet (wC (.bl true))) wNext))
end K51
set_option Elab.async false
set_option linter.all false
set_option maxRecDepth 100000
set_option maxHeartbeats 4000000
namespace K51
open PySem PySem.Spec L2 DL
open PyProof.Rows hiding St
theorem h_law_cell_at : ∀ ds EF PF, f_law_cell_at ds EF PF → ds.length = 2 ∧ bodyD 2 b_law_cell_at ds EF PF := by
  rintro ds EF PF ⟨⟨ns, k⟩, rfl, p, q⟩
  refine ⟨rfl, ?_⟩
  unfold b_law_cell_at
  (try simp only [wC_ap, wSetI_ap, wExpr_ap, wRet_ap, wRetN_ap, wRet0_ap, wIf_ap, wFor_ap, wWhile_ap, wBreak_ap, wCont_ap, wNever_ap, wPick_ap, wCallL_ap, wOp_ap, wIxO_ap, wNoPart_ap, wPart_ap, wSl_ap, wUn_ap, wTest_ap, wChain_ap, wTru_ap, wNotT_ap, wAndT_ap, wOrT_ap, wAnd_ap, wOr_ap, wNot_ap, wIfE_ap, wNil_ap, wCons_ap, wTup_ap, wLst_ap, wCall_ap, wCall0_ap, wCallIo_ap, wYes_ap, wGn_ap, wSr_ap, wEn_ap, wZp_ap, wRg1_ap, wRg2_ap, wLc_ap, wMeth_ap, wMeth0_ap, wNext_ap, wSeq_ap, wAsg_ap, wSet_ap, wV_ap, wPar_ap, par2_ap, wGnil_ap, wGcons_ap, wGtup_ap, sl_z, sl_s, set_z, set_s, wipe_z, wipe_s, rest_z, rest_s, oAdd_i, oAdd_t, oAdd_l, oAdd_s, oSub_i, oMul_i, oMul_t, oII_i, oII0_i, oIx_l, oIx_t, oIx_f, oIsN_n, oNotN_n, oLen_l, oLen_t, oLen_f, oInt_i, oInt_b, oI1_i, oNeg_i, oList_l, oList_t, oTuple_l, oTuple_t, oBs_l, oSl_l, oSl_t, oIsi_ap, oIsi2_ap, tyD_n, tyD_b, tyD_i, tyD_s, tyD_t, tyD_l, tyD_f, truD_n, truD_b, truD_i, truD_t, truD_l, asB_b, asI_i, asL_l, isL_l, isL_t, isL_i, isL_b, isL_n, itD_l, itD_t, itD_f, fApp_ap, fExt_ap, ex_some, onS_ap, ite_t, ite_f, bodyD_ap, ioD_c, start_ap, isi_int_NoneType, isi_int_bool, isi_int_int, isi_int_str, isi_int_tuple, isi_int_list, isi_int_dict, isi_bool_NoneType, isi_bool_bool, isi_bool_int, isi_bool_str, isi_bool_tuple, isi_bool_list, isi_bool_dict, isi_str_NoneType, isi_str_bool, isi_str_int, isi_str_str, isi_str_tuple, isi_str_list, isi_str_dict, isi_list_NoneType, isi_list_bool, isi_list_int, isi_list_str, isi_list_tuple, isi_list_list, isi_list_dict, isi_tuple_NoneType, isi_tuple_bool, isi_tuple_int, isi_tuple_str, isi_tuple_tuple, isi_tuple_list, isi_tuple_dict, isi_dict_NoneType, isi_dict_bool, isi_dict_int, isi_dict_str, isi_dict_tuple, isi_dict_list, isi_dict_dict, List.map_cons, List.map_nil, List.cons_append, List.nil_append, List.length_cons, List.length_nil, List.replicate_succ, List.replicate_zero, Nat.reduceAdd, Nat.reduceSub, Nat.zero_add, true_and, and_true, Bool.not_true, Bool.not_false, Bool.true_or, Bool.or_true, Bool.false_or, Bool.or_false, if_true, if_false, Bool.false_eq_true, List.length_map])
  by_cases h : (k : Int) < (ns.length : Int)
  · rw [decide_eq_true h]
    have hk : k < ns.length := by omega
    have e : atI (ns.map D.int) (k : Int) = some (.int ns[k]) := atI_int (List.getElem?_eq_getElem hk)
    (try simp only [wC_ap, wSetI_ap, wExpr_ap, wRet_ap, wRetN_ap, wRet0_ap, wIf_ap, wFor_ap, wWhile_ap, wBreak_ap, wCont_ap, wNever_ap, wPick_ap, wCallL_ap, wOp_ap, wIxO_ap, wNoPart_ap, wPart_ap, wSl_ap, wUn_ap, wTest_ap, wChain_ap, wTru_ap, wNotT_ap, wAndT_ap, wOrT_ap, wAnd_ap, wOr_ap, wNot_ap, wIfE_ap, wNil_ap, wCons_ap, wTup_ap, wLst_ap, wCall_ap, wCall0_ap, wCallIo_ap, wYes_ap, wGn_ap, wSr_ap, wEn_ap, wZp_ap, wRg1_ap, wRg2_ap, wLc_ap, wMeth_ap, wMeth0_ap, wNext_ap, wSeq_ap, wAsg_ap, wSet_ap, wV_ap, wPar_ap, par2_ap, wGnil_ap, wGcons_ap, wGtup_ap, sl_z, sl_s, set_z, set_s, wipe_z, wipe_s, rest_z, rest_s, oAdd_i, oAdd_t, oAdd_l, oAdd_s, oSub_i, oMul_i, oMul_t, oII_i, oII0_i, oIx_l, oIx_t, oIx_f, oIsN_n, oNotN_n, oLen_l, oLen_t, oLen_f, oInt_i, oInt_b, oI1_i, oNeg_i, oList_l, oList_t, oTuple_l, oTuple_t, oBs_l, oSl_l, oSl_t, oIsi_ap, oIsi2_ap, tyD_n, tyD_b, tyD_i, tyD_s, tyD_t, tyD_l, tyD_f, truD_n, truD_b, truD_i, truD_t, truD_l, asB_b, asI_i, asL_l, isL_l, isL_t, isL_i, isL_b, isL_n, itD_l, itD_t, itD_f, fApp_ap, fExt_ap, ex_some, onS_ap, ite_t, ite_f, bodyD_ap, ioD_c, start_ap, isi_int_NoneType, isi_int_bool, isi_int_int, isi_int_str, isi_int_tuple, isi_int_list, isi_int_dict, isi_bool_NoneType, isi_bool_bool, isi_bool_int, isi_bool_str, isi_bool_tuple, isi_bool_list, isi_bool_dict, isi_str_NoneType, isi_str_bool, isi_str_int, isi_str_str, isi_str_tuple, isi_str_list, isi_str_dict, isi_list_NoneType, isi_list_bool, isi_list_int, isi_list_str, isi_list_tuple, isi_list_list, isi_list_dict, isi_tuple_NoneType, isi_tuple_bool, isi_tuple_int, isi_tuple_str, isi_tuple_tuple, isi_tuple_list, isi_tuple_dict, isi_dict_NoneType, isi_dict_bool, isi_dict_int, isi_dict_str, isi_dict_tuple, isi_dict_list, isi_dict_dict, List.map_cons, List.map_nil, List.cons_append, List.nil_append, List.length_cons, List.length_nil, List.replicate_succ, List.replicate_zero, Nat.reduceAdd, Nat.reduceSub, Nat.zero_add, true_and, and_true, Bool.not_true, Bool.not_false, Bool.true_or, Bool.or_true, Bool.false_or, Bool.or_false, if_true, if_false, Bool.false_eq_true, e])
    exact q _ _ ⟨_, rfl⟩
  · rw [decide_eq_false h]
    (try simp only [wC_ap, wSetI_ap, wExpr_ap, wRet_ap, wRetN_ap, wRet0_ap, wIf_ap, wFor_ap, wWhile_ap, wBreak_ap, wCont_ap, wNever_ap, wPick_ap, wCallL_ap, wOp_ap, wIxO_ap, wNoPart_ap, wPart_ap, wSl_ap, wUn_ap, wTest_ap, wChain_ap, wTru_ap, wNotT_ap, wAndT_ap, wOrT_ap, wAnd_ap, wOr_ap, wNot_ap, wIfE_ap, wNil_ap, wCons_ap, wTup_ap, wLst_ap, wCall_ap, wCall0_ap, wCallIo_ap, wYes_ap, wGn_ap, wSr_ap, wEn_ap, wZp_ap, wRg1_ap, wRg2_ap, wLc_ap, wMeth_ap, wMeth0_ap, wNext_ap, wSeq_ap, wAsg_ap, wSet_ap, wV_ap, wPar_ap, par2_ap, wGnil_ap, wGcons_ap, wGtup_ap, sl_z, sl_s, set_z, set_s, wipe_z, wipe_s, rest_z, rest_s, oAdd_i, oAdd_t, oAdd_l, oAdd_s, oSub_i, oMul_i, oMul_t, oII_i, oII0_i, oIx_l, oIx_t, oIx_f, oIsN_n, oNotN_n, oLen_l, oLen_t, oLen_f, oInt_i, oInt_b, oI1_i, oNeg_i, oList_l, oList_t, oTuple_l, oTuple_t, oBs_l, oSl_l, oSl_t, oIsi_ap, oIsi2_ap, tyD_n, tyD_b, tyD_i, tyD_s, tyD_t, tyD_l, tyD_f, truD_n, truD_b, truD_i, truD_t, truD_l, asB_b, asI_i, asL_l, isL_l, isL_t, isL_i, isL_b, isL_n, itD_l, itD_t, itD_f, fApp_ap, fExt_ap, ex_some, onS_ap, ite_t, ite_f, bodyD_ap, ioD_c, start_ap, isi_int_NoneType, isi_int_bool, isi_int_int, isi_int_str, isi_int_tuple, isi_int_list, isi_int_dict, isi_bool_NoneType, isi_bool_bool, isi_bool_int, isi_bool_str, isi_bool_tuple, isi_bool_list, isi_bool_dict, isi_str_NoneType, isi_str_bool, isi_str_int, isi_str_str, isi_str_tuple, isi_str_list, isi_str_dict, isi_list_NoneType, isi_list_bool, isi_list_int, isi_list_str, isi_list_tuple, isi_list_list, isi_list_dict, isi_tuple_NoneType, isi_tuple_bool, isi_tuple_int, isi_tuple_str, isi_tuple_tuple, isi_tuple_list, isi_tuple_dict, isi_dict_NoneType, isi_dict_bool, isi_dict_int, isi_dict_str, isi_dict_tuple, isi_dict_list, isi_dict_dict, List.map_cons, List.map_nil, List.cons_append, List.nil_append, List.length_cons, List.length_nil, List.replicate_succ, List.replicate_zero, Nat.reduceAdd, Nat.reduceSub, Nat.zero_add, true_and, and_true, Bool.not_true, Bool.not_false, Bool.true_or, Bool.or_true, Bool.false_or, Bool.or_false, if_true, if_false, Bool.false_eq_true])
    exact ⟨mulOk_l (by decide) (by decide), q _ _ ⟨_, rfl⟩⟩
theorem h_law_box : ∀ ds EF PF, f_law_box ds EF PF → ds.length = 1 ∧ bodyD 1 b_law_box ds EF PF := by
  rintro ds EF PF ⟨z, rfl, p, q⟩
  refine ⟨rfl, ?_⟩
  have hm : 0 ≤ z.fmod 2147483629 ∧ z.fmod 2147483629 < 2147483648 := by
    rw [Int.fmod_eq_emod_of_nonneg _ (by decide)]
    omega
  unfold b_law_box
  (try simp only [wC_ap, wSetI_ap, wExpr_ap, wRet_ap, wRetN_ap, wRet0_ap, wIf_ap, wFor_ap, wWhile_ap, wBreak_ap, wCont_ap, wNever_ap, wPick_ap, wCallL_ap, wOp_ap, wIxO_ap, wNoPart_ap, wPart_ap, wSl_ap, wUn_ap, wTest_ap, wChain_ap, wTru_ap, wNotT_ap, wAndT_ap, wOrT_ap, wAnd_ap, wOr_ap, wNot_ap, wIfE_ap, wNil_ap, wCons_ap, wTup_ap, wLst_ap, wCall_ap, wCall0_ap, wCallIo_ap, wYes_ap, wGn_ap, wSr_ap, wEn_ap, wZp_ap, wRg1_ap, wRg2_ap, wLc_ap, wMeth_ap, wMeth0_ap, wNext_ap, wSeq_ap, wAsg_ap, wSet_ap, wV_ap, wPar_ap, par2_ap, wGnil_ap, wGcons_ap, wGtup_ap, sl_z, sl_s, set_z, set_s, wipe_z, wipe_s, rest_z, rest_s, oAdd_i, oAdd_t, oAdd_l, oAdd_s, oSub_i, oMul_i, oMul_t, oII_i, oII0_i, oIx_l, oIx_t, oIx_f, oIsN_n, oNotN_n, oLen_l, oLen_t, oLen_f, oInt_i, oInt_b, oI1_i, oNeg_i, oList_l, oList_t, oTuple_l, oTuple_t, oBs_l, oSl_l, oSl_t, oIsi_ap, oIsi2_ap, tyD_n, tyD_b, tyD_i, tyD_s, tyD_t, tyD_l, tyD_f, truD_n, truD_b, truD_i, truD_t, truD_l, asB_b, asI_i, asL_l, isL_l, isL_t, isL_i, isL_b, isL_n, itD_l, itD_t, itD_f, fApp_ap, fExt_ap, ex_some, onS_ap, ite_t, ite_f, bodyD_ap, ioD_c, start_ap, isi_int_NoneType, isi_int_bool, isi_int_int, isi_int_str, isi_int_tuple, isi_int_list, isi_int_dict, isi_bool_NoneType, isi_bool_bool, isi_bool_int, isi_bool_str, isi_bool_tuple, isi_bool_list, isi_bool_dict, isi_str_NoneType, isi_str_bool, isi_str_int, isi_str_str, isi_str_tuple, isi_str_list, isi_str_dict, isi_list_NoneType, isi_list_bool, isi_list_int, isi_list_str, isi_list_tuple, isi_list_list, isi_list_dict, isi_tuple_NoneType, isi_tuple_bool, isi_tuple_int, isi_tuple_str, isi_tuple_tuple, isi_tuple_list, isi_tuple_dict, isi_dict_NoneType, isi_dict_bool, isi_dict_int, isi_dict_str, isi_dict_tuple, isi_dict_list, isi_dict_dict, List.map_cons, List.map_nil, List.cons_append, List.nil_append, List.length_cons, List.length_nil, List.replicate_succ, List.replicate_zero, Nat.reduceAdd, Nat.reduceSub, Nat.zero_add, true_and, and_true, Bool.not_true, Bool.not_false, Bool.true_or, Bool.or_true, Bool.false_or, Bool.or_false, if_true, if_false, Bool.false_eq_true])
  refine ⟨⟨by decide, by decide, by decide⟩, ?_⟩
  by_cases h : (10 : Int) ^ (18 : Int).toNat ≤ z
  · rw [decide_eq_true h]
    (try simp only [wC_ap, wSetI_ap, wExpr_ap, wRet_ap, wRetN_ap, wRet0_ap, wIf_ap, wFor_ap, wWhile_ap, wBreak_ap, wCont_ap, wNever_ap, wPick_ap, wCallL_ap, wOp_ap, wIxO_ap, wNoPart_ap, wPart_ap, wSl_ap, wUn_ap, wTest_ap, wChain_ap, wTru_ap, wNotT_ap, wAndT_ap, wOrT_ap, wAnd_ap, wOr_ap, wNot_ap, wIfE_ap, wNil_ap, wCons_ap, wTup_ap, wLst_ap, wCall_ap, wCall0_ap, wCallIo_ap, wYes_ap, wGn_ap, wSr_ap, wEn_ap, wZp_ap, wRg1_ap, wRg2_ap, wLc_ap, wMeth_ap, wMeth0_ap, wNext_ap, wSeq_ap, wAsg_ap, wSet_ap, wV_ap, wPar_ap, par2_ap, wGnil_ap, wGcons_ap, wGtup_ap, sl_z, sl_s, set_z, set_s, wipe_z, wipe_s, rest_z, rest_s, oAdd_i, oAdd_t, oAdd_l, oAdd_s, oSub_i, oMul_i, oMul_t, oII_i, oII0_i, oIx_l, oIx_t, oIx_f, oIsN_n, oNotN_n, oLen_l, oLen_t, oLen_f, oInt_i, oInt_b, oI1_i, oNeg_i, oList_l, oList_t, oTuple_l, oTuple_t, oBs_l, oSl_l, oSl_t, oIsi_ap, oIsi2_ap, tyD_n, tyD_b, tyD_i, tyD_s, tyD_t, tyD_l, tyD_f, truD_n, truD_b, truD_i, truD_t, truD_l, asB_b, asI_i, asL_l, isL_l, isL_t, isL_i, isL_b, isL_n, itD_l, itD_t, itD_f, fApp_ap, fExt_ap, ex_some, onS_ap, ite_t, ite_f, bodyD_ap, ioD_c, start_ap, isi_int_NoneType, isi_int_bool, isi_int_int, isi_int_str, isi_int_tuple, isi_int_list, isi_int_dict, isi_bool_NoneType, isi_bool_bool, isi_bool_int, isi_bool_str, isi_bool_tuple, isi_bool_list, isi_bool_dict, isi_str_NoneType, isi_str_bool, isi_str_int, isi_str_str, isi_str_tuple, isi_str_list, isi_str_dict, isi_list_NoneType, isi_list_bool, isi_list_int, isi_list_str, isi_list_tuple, isi_list_list, isi_list_dict, isi_tuple_NoneType, isi_tuple_bool, isi_tuple_int, isi_tuple_str, isi_tuple_tuple, isi_tuple_list, isi_tuple_dict, isi_dict_NoneType, isi_dict_bool, isi_dict_int, isi_dict_str, isi_dict_tuple, isi_dict_list, isi_dict_dict, List.map_cons, List.map_nil, List.cons_append, List.nil_append, List.length_cons, List.length_nil, List.replicate_succ, List.replicate_zero, Nat.reduceAdd, Nat.reduceSub, Nat.zero_add, true_and, and_true, Bool.not_true, Bool.not_false, Bool.true_or, Bool.or_true, Bool.false_or, Bool.or_false, if_true, if_false, Bool.false_eq_true])
    exact ⟨by decide, small_z (by decide), q _ _ ⟨_, _, _, rfl, hm.1, hm.2⟩⟩
  · rw [decide_eq_false h]
    (try simp only [wC_ap, wSetI_ap, wExpr_ap, wRet_ap, wRetN_ap, wRet0_ap, wIf_ap, wFor_ap, wWhile_ap, wBreak_ap, wCont_ap, wNever_ap, wPick_ap, wCallL_ap, wOp_ap, wIxO_ap, wNoPart_ap, wPart_ap, wSl_ap, wUn_ap, wTest_ap, wChain_ap, wTru_ap, wNotT_ap, wAndT_ap, wOrT_ap, wAnd_ap, wOr_ap, wNot_ap, wIfE_ap, wNil_ap, wCons_ap, wTup_ap, wLst_ap, wCall_ap, wCall0_ap, wCallIo_ap, wYes_ap, wGn_ap, wSr_ap, wEn_ap, wZp_ap, wRg1_ap, wRg2_ap, wLc_ap, wMeth_ap, wMeth0_ap, wNext_ap, wSeq_ap, wAsg_ap, wSet_ap, wV_ap, wPar_ap, par2_ap, wGnil_ap, wGcons_ap, wGtup_ap, sl_z, sl_s, set_z, set_s, wipe_z, wipe_s, rest_z, rest_s, oAdd_i, oAdd_t, oAdd_l, oAdd_s, oSub_i, oMul_i, oMul_t, oII_i, oII0_i, oIx_l, oIx_t, oIx_f, oIsN_n, oNotN_n, oLen_l, oLen_t, oLen_f, oInt_i, oInt_b, oI1_i, oNeg_i, oList_l, oList_t, oTuple_l, oTuple_t, oBs_l, oSl_l, oSl_t, oIsi_ap, oIsi2_ap, tyD_n, tyD_b, tyD_i, tyD_s, tyD_t, tyD_l, tyD_f, truD_n, truD_b, truD_i, truD_t, truD_l, asB_b, asI_i, asL_l, isL_l, isL_t, isL_i, isL_b, isL_n, itD_l, itD_t, itD_f, fApp_ap, fExt_ap, ex_some, onS_ap, ite_t, ite_f, bodyD_ap, ioD_c, start_ap, isi_int_NoneType, isi_int_bool, isi_int_int, isi_int_str, isi_int_tuple, isi_int_list, isi_int_dict, isi_bool_NoneType, isi_bool_bool, isi_bool_int, isi_bool_str, isi_bool_tuple, isi_bool_list, isi_bool_dict, isi_str_NoneType, isi_str_bool, isi_str_int, isi_str_str, isi_str_tuple, isi_str_list, isi_str_dict, isi_list_NoneType, isi_list_bool, isi_list_int, isi_list_str, isi_list_tuple, isi_list_list, isi_list_dict, isi_tuple_NoneType, isi_tuple_bool, isi_tuple_int, isi_tuple_str, isi_tuple_tuple, isi_tuple_list, isi_tuple_dict, isi_dict_NoneType, isi_dict_bool, isi_dict_int, isi_dict_str, isi_dict_tuple, isi_dict_list, isi_dict_dict, List.map_cons, List.map_nil, List.cons_append, List.nil_append, List.length_cons, List.length_nil, List.replicate_succ, List.replicate_zero, Nat.reduceAdd, Nat.reduceSub, Nat.zero_add, true_and, and_true, Bool.not_true, Bool.not_false, Bool.true_or, Bool.or_true, Bool.false_or, Bool.or_false, if_true, if_false, Bool.false_eq_true])
    exact ⟨by decide, small_z (by decide), q _ _ ⟨_, _, _, rfl, hm.1, hm.2⟩⟩
theorem fmod_rng {a m : Int} (h : 0 < m) : ∃ z : Nat, a.fmod m = z ∧ (z : Int) < m := by
  rw [Int.fmod_eq_emod_of_nonneg _ (by omega)]
  have h1 := Int.emod_nonneg a (show m ≠ 0 by omega)
  have h2 := Int.emod_lt_of_pos a h
  exact ⟨(a % m).toNat, by omega, by omega⟩
theorem h_law_take : ∀ ds EF PF, f_law_take ds EF PF → ds.length = 2 ∧ bodyD 4 b_law_take ds EF PF := by
  rintro ds EF PF ⟨⟨box, m⟩, rfl, ⟨⟨b0, b1, b2, e, p1, p2⟩, p3, p4⟩, q⟩
  refine ⟨rfl, ?_⟩
  have e : box = .lst [.int b0, .int b1, .int b2] := e
  subst e
  have p3 : 0 < m := p3
  have p4 : m < 1073741824 := p4
  unfold b_law_take
  (try simp only [wC_ap, wSetI_ap, wExpr_ap, wRet_ap, wRetN_ap, wRet0_ap, wIf_ap, wFor_ap, wWhile_ap, wBreak_ap, wCont_ap, wNever_ap, wPick_ap, wCallL_ap, wOp_ap, wIxO_ap, wNoPart_ap, wPart_ap, wSl_ap, wUn_ap, wTest_ap, wChain_ap, wTru_ap, wNotT_ap, wAndT_ap, wOrT_ap, wAnd_ap, wOr_ap, wNot_ap, wIfE_ap, wNil_ap, wCons_ap, wTup_ap, wLst_ap, wCall_ap, wCall0_ap, wCallIo_ap, wYes_ap, wGn_ap, wSr_ap, wEn_ap, wZp_ap, wRg1_ap, wRg2_ap, wLc_ap, wMeth_ap, wMeth0_ap, wNext_ap, wSeq_ap, wAsg_ap, wSet_ap, wV_ap, wPar_ap, par2_ap, wGnil_ap, wGcons_ap, wGtup_ap, sl_z, sl_s, set_z, set_s, wipe_z, wipe_s, rest_z, rest_s, oAdd_i, oAdd_t, oAdd_l, oAdd_s, oSub_i, oMul_i, oMul_t, oII_i, oII0_i, oIx_l, oIx_t, oIx_f, oIsN_n, oNotN_n, oLen_l, oLen_t, oLen_f, oInt_i, oInt_b, oI1_i, oNeg_i, oList_l, oList_t, oTuple_l, oTuple_t, oBs_l, oSl_l, oSl_t, oIsi_ap, oIsi2_ap, tyD_n, tyD_b, tyD_i, tyD_s, tyD_t, tyD_l, tyD_f, truD_n, truD_b, truD_i, truD_t, truD_l, asB_b, asI_i, asL_l, isL_l, isL_t, isL_i, isL_b, isL_n, itD_l, itD_t, itD_f, fApp_ap, fExt_ap, ex_some, onS_ap, ite_t, ite_f, bodyD_ap, ioD_c, start_ap, isi_int_NoneType, isi_int_bool, isi_int_int, isi_int_str, isi_int_tuple, isi_int_list, isi_int_dict, isi_bool_NoneType, isi_bool_bool, isi_bool_int, isi_bool_str, isi_bool_tuple, isi_bool_list, isi_bool_dict, isi_str_NoneType, isi_str_bool, isi_str_int, isi_str_str, isi_str_tuple, isi_str_list, isi_str_dict, isi_list_NoneType, isi_list_bool, isi_list_int, isi_list_str, isi_list_tuple, isi_list_list, isi_list_dict, isi_tuple_NoneType, isi_tuple_bool, isi_tuple_int, isi_tuple_str, isi_tuple_tuple, isi_tuple_list, isi_tuple_dict, isi_dict_NoneType, isi_dict_bool, isi_dict_int, isi_dict_str, isi_dict_tuple, isi_dict_list, isi_dict_dict, List.map_cons, List.map_nil, List.cons_append, List.nil_append, List.length_cons, List.length_nil, List.replicate_succ, List.replicate_zero, Nat.reduceAdd, Nat.reduceSub, Nat.zero_add, true_and, and_true, Bool.not_true, Bool.not_false, Bool.true_or, Bool.or_true, Bool.false_or, Bool.or_false, if_true, if_false, Bool.false_eq_true, atI_z])
  by_cases h : 0 < b0
  · rw [decide_eq_true h]
    (try simp only [wC_ap, wSetI_ap, wExpr_ap, wRet_ap, wRetN_ap, wRet0_ap, wIf_ap, wFor_ap, wWhile_ap, wBreak_ap, wCont_ap, wNever_ap, wPick_ap, wCallL_ap, wOp_ap, wIxO_ap, wNoPart_ap, wPart_ap, wSl_ap, wUn_ap, wTest_ap, wChain_ap, wTru_ap, wNotT_ap, wAndT_ap, wOrT_ap, wAnd_ap, wOr_ap, wNot_ap, wIfE_ap, wNil_ap, wCons_ap, wTup_ap, wLst_ap, wCall_ap, wCall0_ap, wCallIo_ap, wYes_ap, wGn_ap, wSr_ap, wEn_ap, wZp_ap, wRg1_ap, wRg2_ap, wLc_ap, wMeth_ap, wMeth0_ap, wNext_ap, wSeq_ap, wAsg_ap, wSet_ap, wV_ap, wPar_ap, par2_ap, wGnil_ap, wGcons_ap, wGtup_ap, sl_z, sl_s, set_z, set_s, wipe_z, wipe_s, rest_z, rest_s, oAdd_i, oAdd_t, oAdd_l, oAdd_s, oSub_i, oMul_i, oMul_t, oII_i, oII0_i, oIx_l, oIx_t, oIx_f, oIsN_n, oNotN_n, oLen_l, oLen_t, oLen_f, oInt_i, oInt_b, oI1_i, oNeg_i, oList_l, oList_t, oTuple_l, oTuple_t, oBs_l, oSl_l, oSl_t, oIsi_ap, oIsi2_ap, tyD_n, tyD_b, tyD_i, tyD_s, tyD_t, tyD_l, tyD_f, truD_n, truD_b, truD_i, truD_t, truD_l, asB_b, asI_i, asL_l, isL_l, isL_t, isL_i, isL_b, isL_n, itD_l, itD_t, itD_f, fApp_ap, fExt_ap, ex_some, onS_ap, ite_t, ite_f, bodyD_ap, ioD_c, start_ap, isi_int_NoneType, isi_int_bool, isi_int_int, isi_int_str, isi_int_tuple, isi_int_list, isi_int_dict, isi_bool_NoneType, isi_bool_bool, isi_bool_int, isi_bool_str, isi_bool_tuple, isi_bool_list, isi_bool_dict, isi_str_NoneType, isi_str_bool, isi_str_int, isi_str_str, isi_str_tuple, isi_str_list, isi_str_dict, isi_list_NoneType, isi_list_bool, isi_list_int, isi_list_str, isi_list_tuple, isi_list_list, isi_list_dict, isi_tuple_NoneType, isi_tuple_bool, isi_tuple_int, isi_tuple_str, isi_tuple_tuple, isi_tuple_list, isi_tuple_dict, isi_dict_NoneType, isi_dict_bool, isi_dict_int, isi_dict_str, isi_dict_tuple, isi_dict_list, isi_dict_dict, List.map_cons, List.map_nil, List.cons_append, List.nil_append, List.length_cons, List.length_nil, List.replicate_succ, List.replicate_zero, Nat.reduceAdd, Nat.reduceSub, Nat.zero_add, true_and, and_true, Bool.not_true, Bool.not_false, Bool.true_or, Bool.or_true, Bool.false_or, Bool.or_false, if_true, if_false, Bool.false_eq_true, atI_z, show ixN 3 0 = some 0 from rfl])
    refine ⟨by omega, divOk_s p3 p4, ?_⟩
    obtain ⟨z, hz, hz2⟩ := fmod_rng (a := b0) p3
    exact q _ _ ⟨⟨z, by rw [hz], hz2⟩, _, _, _, rfl, p1, p2⟩
  · rw [decide_eq_false h]
    (try simp only [wC_ap, wSetI_ap, wExpr_ap, wRet_ap, wRetN_ap, wRet0_ap, wIf_ap, wFor_ap, wWhile_ap, wBreak_ap, wCont_ap, wNever_ap, wPick_ap, wCallL_ap, wOp_ap, wIxO_ap, wNoPart_ap, wPart_ap, wSl_ap, wUn_ap, wTest_ap, wChain_ap, wTru_ap, wNotT_ap, wAndT_ap, wOrT_ap, wAnd_ap, wOr_ap, wNot_ap, wIfE_ap, wNil_ap, wCons_ap, wTup_ap, wLst_ap, wCall_ap, wCall0_ap, wCallIo_ap, wYes_ap, wGn_ap, wSr_ap, wEn_ap, wZp_ap, wRg1_ap, wRg2_ap, wLc_ap, wMeth_ap, wMeth0_ap, wNext_ap, wSeq_ap, wAsg_ap, wSet_ap, wV_ap, wPar_ap, par2_ap, wGnil_ap, wGcons_ap, wGtup_ap, sl_z, sl_s, set_z, set_s, wipe_z, wipe_s, rest_z, rest_s, oAdd_i, oAdd_t, oAdd_l, oAdd_s, oSub_i, oMul_i, oMul_t, oII_i, oII0_i, oIx_l, oIx_t, oIx_f, oIsN_n, oNotN_n, oLen_l, oLen_t, oLen_f, oInt_i, oInt_b, oI1_i, oNeg_i, oList_l, oList_t, oTuple_l, oTuple_t, oBs_l, oSl_l, oSl_t, oIsi_ap, oIsi2_ap, tyD_n, tyD_b, tyD_i, tyD_s, tyD_t, tyD_l, tyD_f, truD_n, truD_b, truD_i, truD_t, truD_l, asB_b, asI_i, asL_l, isL_l, isL_t, isL_i, isL_b, isL_n, itD_l, itD_t, itD_f, fApp_ap, fExt_ap, ex_some, onS_ap, ite_t, ite_f, bodyD_ap, ioD_c, start_ap, isi_int_NoneType, isi_int_bool, isi_int_int, isi_int_str, isi_int_tuple, isi_int_list, isi_int_dict, isi_bool_NoneType, isi_bool_bool, isi_bool_int, isi_bool_str, isi_bool_tuple, isi_bool_list, isi_bool_dict, isi_str_NoneType, isi_str_bool, isi_str_int, isi_str_str, isi_str_tuple, isi_str_list, isi_str_dict, isi_list_NoneType, isi_list_bool, isi_list_int, isi_list_str, isi_list_tuple, isi_list_list, isi_list_dict, isi_tuple_NoneType, isi_tuple_bool, isi_tuple_int, isi_tuple_str, isi_tuple_tuple, isi_tuple_list, isi_tuple_dict, isi_dict_NoneType, isi_dict_bool, isi_dict_int, isi_dict_str, isi_dict_tuple, isi_dict_list, isi_dict_dict, List.map_cons, List.map_nil, List.cons_append, List.nil_append, List.length_cons, List.length_nil, List.replicate_succ, List.replicate_zero, Nat.reduceAdd, Nat.reduceSub, Nat.zero_add, true_and, and_true, Bool.not_true, Bool.not_false, Bool.true_or, Bool.or_true, Bool.false_or, Bool.or_false, if_true, if_false, Bool.false_eq_true, atI_z, atI_1, atI_2, show ixN 3 2 = some 2 from rfl])
    refine ⟨mulOk_l (by decide) (by decide), mulOk_l (by omega) (by omega), mulOk_l (by decide) (by decide), by decide, ?_⟩
    obtain ⟨z, hz, hz2⟩ := fmod_rng (a := b1 * (48271 + 2 * (b2 + 1)) + 7919 * (b2 + 1) + 101) (m := 2147483647) (by decide)
    rw [hz]
    refine ⟨⟨by decide, by decide, by have := hz2; omega⟩, by decide, divOk_s (by decide) (by decide), by omega, ?_⟩
    obtain ⟨y, hy, hy2⟩ := fmod_rng (a := (((z : Int) ^ (3 : Int).toNat).fmod 2147483629).fdiv 8) p3
    exact q _ _ ⟨⟨y, by rw [hy], hy2⟩, _, _, _, rfl, p1, p2⟩
theorem dot_take : ∀ (fs ps : List Int) (k : Nat) (f p : Int), fs[k]? = some f → ps[k]? = some p → dot (fs.take (k + 1)) (ps.take (k + 1)) = dot (fs.take k) (ps.take k) + f * p
  | [], _, _, _, _, h, _ => by simp at h
  | _ :: _, [], _, _, _, _, h => by simp at h
  | a :: fs, b :: ps, 0, f, p, h, h' => by
    simp at h h'
    subst h h'
    simp [dot]
  | a :: fs, b :: ps, k + 1, f, p, h, h' => by
    have ih := dot_take fs ps k f p (by simpa using h) (by simpa using h')
    rw [List.take_succ_cons, List.take_succ_cons, List.take_succ_cons, List.take_succ_cons]
    show a * b + dot (fs.take (k + 1)) (ps.take (k + 1)) = a * b + dot (fs.take k) (ps.take k) + f * p
    rw [ih]; omega
theorem h_law_worth : ∀ ds EF PF, f_law_worth ds EF PF → ds.length = 2 ∧ bodyD 5 b_law_worth ds EF PF := by
  rintro ds EF PF ⟨⟨fs, k, ps⟩, rfl, ⟨p1, p2, p3⟩, q⟩
  refine ⟨rfl, ?_⟩
  have p1 : fs.length = ps.length := p1
  have e1 : atI ((fs ++ [k]).map D.int) (ps.length : Int) = some (.int k) := atI_int (by rw [← p1]; simp)
  unfold b_law_worth
  (try simp only [wC_ap, wSetI_ap, wExpr_ap, wRet_ap, wRetN_ap, wRet0_ap, wIf_ap, wFor_ap, wWhile_ap, wBreak_ap, wCont_ap, wNever_ap, wPick_ap, wCallL_ap, wOp_ap, wIxO_ap, wNoPart_ap, wPart_ap, wSl_ap, wUn_ap, wTest_ap, wChain_ap, wTru_ap, wNotT_ap, wAndT_ap, wOrT_ap, wAnd_ap, wOr_ap, wNot_ap, wIfE_ap, wNil_ap, wCons_ap, wTup_ap, wLst_ap, wCall_ap, wCall0_ap, wCallIo_ap, wYes_ap, wGn_ap, wSr_ap, wEn_ap, wZp_ap, wRg1_ap, wRg2_ap, wLc_ap, wMeth_ap, wMeth0_ap, wNext_ap, wSeq_ap, wAsg_ap, wSet_ap, wV_ap, wPar_ap, par2_ap, wGnil_ap, wGcons_ap, wGtup_ap, sl_z, sl_s, set_z, set_s, wipe_z, wipe_s, rest_z, rest_s, oAdd_i, oAdd_t, oAdd_l, oAdd_s, oSub_i, oMul_i, oMul_t, oII_i, oII0_i, oIx_l, oIx_t, oIx_f, oIsN_n, oNotN_n, oLen_l, oLen_t, oLen_f, oInt_i, oInt_b, oI1_i, oNeg_i, oList_l, oList_t, oTuple_l, oTuple_t, oBs_l, oSl_l, oSl_t, oIsi_ap, oIsi2_ap, tyD_n, tyD_b, tyD_i, tyD_s, tyD_t, tyD_l, tyD_f, truD_n, truD_b, truD_i, truD_t, truD_l, asB_b, asI_i, asL_l, isL_l, isL_t, isL_i, isL_b, isL_n, itD_l, itD_t, itD_f, fApp_ap, fExt_ap, ex_some, onS_ap, ite_t, ite_f, bodyD_ap, ioD_c, start_ap, isi_int_NoneType, isi_int_bool, isi_int_int, isi_int_str, isi_int_tuple, isi_int_list, isi_int_dict, isi_bool_NoneType, isi_bool_bool, isi_bool_int, isi_bool_str, isi_bool_tuple, isi_bool_list, isi_bool_dict, isi_str_NoneType, isi_str_bool, isi_str_int, isi_str_str, isi_str_tuple, isi_str_list, isi_str_dict, isi_list_NoneType, isi_list_bool, isi_list_int, isi_list_str, isi_list_tuple, isi_list_list, isi_list_dict, isi_tuple_NoneType, isi_tuple_bool, isi_tuple_int, isi_tuple_str, isi_tuple_tuple, isi_tuple_list, isi_tuple_dict, isi_dict_NoneType, isi_dict_bool, isi_dict_int, isi_dict_str, isi_dict_tuple, isi_dict_list, isi_dict_dict, List.map_cons, List.map_nil, List.cons_append, List.nil_append, List.length_cons, List.length_nil, List.replicate_succ, List.replicate_zero, Nat.reduceAdd, Nat.reduceSub, Nat.zero_add, true_and, and_true, Bool.not_true, Bool.not_false, Bool.true_or, Bool.or_true, Bool.false_or, Bool.or_false, if_true, if_false, Bool.false_eq_true, oLen_tI, oIx_tI, e1, itD_tI])
  refine for_inv (fun pre ε => ∃ o3 o4, ε = [some (tI (fs ++ [k])), some (tI ps), some (.int (k + dot (fs.take pre.length) (ps.take pre.length))), o3, o4]) ?_ ?_ ⟨none, none, by simp [dot]⟩
  · rintro pre d r ε e ⟨o3, o4, rfl⟩ N hN
    have hg : (enD 0 (ps.map D.int))[pre.length]? = some d := by rw [e]; simp
    have hlt : pre.length < ps.length := by
      have := (List.getElem?_eq_some_iff.mp hg).1
      rwa [enD_len, List.length_map] at this
    have hp : (ps.map D.int)[pre.length]? = some (.int ps[pre.length]) := by simp [hlt]
    have hd := enD_get 0 (ps.map D.int) pre.length _ hp
    rw [hg] at hd
    injection hd with hd
    subst hd
    have hf : pre.length < fs.length := by omega
    have e2 : atI ((fs ++ [k]).map D.int) (pre.length : Int) = some (.int fs[pre.length]) := atI_int (by rw [List.getElem?_append_left hf, List.getElem?_eq_getElem hf])
    have bd := p3 _ (List.getElem_mem hf)
    (try simp only [wC_ap, wSetI_ap, wExpr_ap, wRet_ap, wRetN_ap, wRet0_ap, wIf_ap, wFor_ap, wWhile_ap, wBreak_ap, wCont_ap, wNever_ap, wPick_ap, wCallL_ap, wOp_ap, wIxO_ap, wNoPart_ap, wPart_ap, wSl_ap, wUn_ap, wTest_ap, wChain_ap, wTru_ap, wNotT_ap, wAndT_ap, wOrT_ap, wAnd_ap, wOr_ap, wNot_ap, wIfE_ap, wNil_ap, wCons_ap, wTup_ap, wLst_ap, wCall_ap, wCall0_ap, wCallIo_ap, wYes_ap, wGn_ap, wSr_ap, wEn_ap, wZp_ap, wRg1_ap, wRg2_ap, wLc_ap, wMeth_ap, wMeth0_ap, wNext_ap, wSeq_ap, wAsg_ap, wSet_ap, wV_ap, wPar_ap, par2_ap, wGnil_ap, wGcons_ap, wGtup_ap, sl_z, sl_s, set_z, set_s, wipe_z, wipe_s, rest_z, rest_s, oAdd_i, oAdd_t, oAdd_l, oAdd_s, oSub_i, oMul_i, oMul_t, oII_i, oII0_i, oIx_l, oIx_t, oIx_f, oIsN_n, oNotN_n, oLen_l, oLen_t, oLen_f, oInt_i, oInt_b, oI1_i, oNeg_i, oList_l, oList_t, oTuple_l, oTuple_t, oBs_l, oSl_l, oSl_t, oIsi_ap, oIsi2_ap, tyD_n, tyD_b, tyD_i, tyD_s, tyD_t, tyD_l, tyD_f, truD_n, truD_b, truD_i, truD_t, truD_l, asB_b, asI_i, asL_l, isL_l, isL_t, isL_i, isL_b, isL_n, itD_l, itD_t, itD_f, fApp_ap, fExt_ap, ex_some, onS_ap, ite_t, ite_f, bodyD_ap, ioD_c, start_ap, isi_int_NoneType, isi_int_bool, isi_int_int, isi_int_str, isi_int_tuple, isi_int_list, isi_int_dict, isi_bool_NoneType, isi_bool_bool, isi_bool_int, isi_bool_str, isi_bool_tuple, isi_bool_list, isi_bool_dict, isi_str_NoneType, isi_str_bool, isi_str_int, isi_str_str, isi_str_tuple, isi_str_list, isi_str_dict, isi_list_NoneType, isi_list_bool, isi_list_int, isi_list_str, isi_list_tuple, isi_list_list, isi_list_dict, isi_tuple_NoneType, isi_tuple_bool, isi_tuple_int, isi_tuple_str, isi_tuple_tuple, isi_tuple_list, isi_tuple_dict, isi_dict_NoneType, isi_dict_bool, isi_dict_int, isi_dict_str, isi_dict_tuple, isi_dict_list, isi_dict_dict, List.map_cons, List.map_nil, List.cons_append, List.nil_append, List.length_cons, List.length_nil, List.replicate_succ, List.replicate_zero, Nat.reduceAdd, Nat.reduceSub, Nat.zero_add, true_and, and_true, Bool.not_true, Bool.not_false, Bool.true_or, Bool.or_true, Bool.false_or, Bool.or_false, if_true, if_false, Bool.false_eq_true, oIx_tI, e2])
    refine ⟨mulOk_l (by omega) (by omega), hN _ ⟨some (.int (pre.length : Nat)), some (.int ps[pre.length]), ?_⟩⟩
    rw [List.length_append, List.length_singleton, dot_take fs ps pre.length fs[pre.length] ps[pre.length] (List.getElem?_eq_getElem hf) (List.getElem?_eq_getElem hlt), Int.add_assoc]
  · rintro ε ⟨o3, o4, rfl⟩
    (try simp only [wC_ap, wSetI_ap, wExpr_ap, wRet_ap, wRetN_ap, wRet0_ap, wIf_ap, wFor_ap, wWhile_ap, wBreak_ap, wCont_ap, wNever_ap, wPick_ap, wCallL_ap, wOp_ap, wIxO_ap, wNoPart_ap, wPart_ap, wSl_ap, wUn_ap, wTest_ap, wChain_ap, wTru_ap, wNotT_ap, wAndT_ap, wOrT_ap, wAnd_ap, wOr_ap, wNot_ap, wIfE_ap, wNil_ap, wCons_ap, wTup_ap, wLst_ap, wCall_ap, wCall0_ap, wCallIo_ap, wYes_ap, wGn_ap, wSr_ap, wEn_ap, wZp_ap, wRg1_ap, wRg2_ap, wLc_ap, wMeth_ap, wMeth0_ap, wNext_ap, wSeq_ap, wAsg_ap, wSet_ap, wV_ap, wPar_ap, par2_ap, wGnil_ap, wGcons_ap, wGtup_ap, sl_z, sl_s, set_z, set_s, wipe_z, wipe_s, rest_z, rest_s, oAdd_i, oAdd_t, oAdd_l, oAdd_s, oSub_i, oMul_i, oMul_t, oII_i, oII0_i, oIx_l, oIx_t, oIx_f, oIsN_n, oNotN_n, oLen_l, oLen_t, oLen_f, oInt_i, oInt_b, oI1_i, oNeg_i, oList_l, oList_t, oTuple_l, oTuple_t, oBs_l, oSl_l, oSl_t, oIsi_ap, oIsi2_ap, tyD_n, tyD_b, tyD_i, tyD_s, tyD_t, tyD_l, tyD_f, truD_n, truD_b, truD_i, truD_t, truD_l, asB_b, asI_i, asL_l, isL_l, isL_t, isL_i, isL_b, isL_n, itD_l, itD_t, itD_f, fApp_ap, fExt_ap, ex_some, onS_ap, ite_t, ite_f, bodyD_ap, ioD_c, start_ap, isi_int_NoneType, isi_int_bool, isi_int_int, isi_int_str, isi_int_tuple, isi_int_list, isi_int_dict, isi_bool_NoneType, isi_bool_bool, isi_bool_int, isi_bool_str, isi_bool_tuple, isi_bool_list, isi_bool_dict, isi_str_NoneType, isi_str_bool, isi_str_int, isi_str_str, isi_str_tuple, isi_str_list, isi_str_dict, isi_list_NoneType, isi_list_bool, isi_list_int, isi_list_str, isi_list_tuple, isi_list_list, isi_list_dict, isi_tuple_NoneType, isi_tuple_bool, isi_tuple_int, isi_tuple_str, isi_tuple_tuple, isi_tuple_list, isi_tuple_dict, isi_dict_NoneType, isi_dict_bool, isi_dict_int, isi_dict_str, isi_dict_tuple, isi_dict_list, isi_dict_dict, List.map_cons, List.map_nil, List.cons_append, List.nil_append, List.length_cons, List.length_nil, List.replicate_succ, List.replicate_zero, Nat.reduceAdd, Nat.reduceSub, Nat.zero_add, true_and, and_true, Bool.not_true, Bool.not_false, Bool.true_or, Bool.or_true, Bool.false_or, Bool.or_false, if_true, if_false, Bool.false_eq_true])
    refine q _ _ ?_
    rw [enD_len, List.length_map, List.take_length, ← p1, List.take_length]
theorem cdiv_law (k : Int) {b : Int} (h : 0 < b) : 0 - (0 - k).fdiv b = cdiv k b := by
  rw [Int.fdiv_eq_ediv_of_nonneg _ (by omega)]
  unfold cdiv
  have e1 := Int.emod_add_mul_ediv k b
  have e2 := Int.emod_add_mul_ediv (0 - k) b
  have n1 := Int.emod_nonneg k (show b ≠ 0 by omega)
  have n2 := Int.emod_nonneg (0 - k) (show b ≠ 0 by omega)
  have l1 := Int.emod_lt_of_pos k h
  have l2 := Int.emod_lt_of_pos (0 - k) h
  have key : b * (k / b + (0 - k) / b) = -(k % b) - (0 - k) % b := by rw [Int.mul_add]; omega
  split
  · rename_i hp
    have : k / b + (0 - k) / b = -1 := by
      have h1 : b * (k / b + (0 - k) / b) < 0 := by omega
      have h2 : b * (k / b + (0 - k) / b) > b * (-2) := by omega
      have h3 : k / b + (0 - k) / b < 0 := by
        rcases Int.lt_or_le (k / b + (0 - k) / b) 0 with hh | hh
        · exact hh
        · have := Int.mul_nonneg (Int.le_of_lt h) hh
          omega
      have h4 : k / b + (0 - k) / b > -2 := Int.lt_of_mul_lt_mul_left h2 (Int.le_of_lt h)
      omega
    omega
  · have : k / b + (0 - k) / b = 0 := by
      have h1 : b * (k / b + (0 - k) / b) > b * (-1) := by omega
      have h2 : b * (k / b + (0 - k) / b) ≤ 0 := by omega
      have h4 : k / b + (0 - k) / b > -1 := Int.lt_of_mul_lt_mul_left h1 (Int.le_of_lt h)
      have h3 : k / b + (0 - k) / b ≤ 0 := by
        rcases Int.lt_or_le 0 (k / b + (0 - k) / b) with hh | hh
        · have := Int.mul_pos h hh
          omega
        · exact hh
      omega
    omega
theorem h_law_plain : ∀ ds EF PF, f_law_plain ds EF PF → ds.length = 1 ∧ bodyD 5 b_law_plain ds EF PF := by
  rintro ds EF PF ⟨⟨fs, k⟩, rfl, ⟨p1, p2⟩, q⟩
  refine ⟨rfl, ?_⟩
  have p1 : fs.length ≤ 10 := p1
  have hcut : DL.cutD ((fs ++ [k]).map D.int) none (some (-1)) = fs.map D.int := by rw [List.map_append]; exact cut_m1 _ _
  have hsl : ∀ P : D → Prop, oSl none (some (-1)) (tI (fs ++ [k])) P = P (tI fs) := fun P => by
    unfold tI
    rw [oSl_t, hcut]
  have hix : ∀ P : D → Prop, oIx (tI (fs ++ [k])) (.int (-1)) P = P (.int k) := fun P => by
    rw [oIx_tI, atI_intm1, onS_ap]
  unfold b_law_plain
  (try simp only [wC_ap, wSetI_ap, wExpr_ap, wRet_ap, wRetN_ap, wRet0_ap, wIf_ap, wFor_ap, wWhile_ap, wBreak_ap, wCont_ap, wNever_ap, wPick_ap, wCallL_ap, wOp_ap, wIxO_ap, wNoPart_ap, wPart_ap, wSl_ap, wUn_ap, wTest_ap, wChain_ap, wTru_ap, wNotT_ap, wAndT_ap, wOrT_ap, wAnd_ap, wOr_ap, wNot_ap, wIfE_ap, wNil_ap, wCons_ap, wTup_ap, wLst_ap, wCall_ap, wCall0_ap, wCallIo_ap, wYes_ap, wGn_ap, wSr_ap, wEn_ap, wZp_ap, wRg1_ap, wRg2_ap, wLc_ap, wMeth_ap, wMeth0_ap, wNext_ap, wSeq_ap, wAsg_ap, wSet_ap, wV_ap, wPar_ap, par2_ap, wGnil_ap, wGcons_ap, wGtup_ap, sl_z, sl_s, set_z, set_s, wipe_z, wipe_s, rest_z, rest_s, oAdd_i, oAdd_t, oAdd_l, oAdd_s, oSub_i, oMul_i, oMul_t, oII_i, oII0_i, oIx_l, oIx_t, oIx_f, oIsN_n, oNotN_n, oLen_l, oLen_t, oLen_f, oInt_i, oInt_b, oI1_i, oNeg_i, oList_l, oList_t, oTuple_l, oTuple_t, oBs_l, oSl_l, oSl_t, oIsi_ap, oIsi2_ap, tyD_n, tyD_b, tyD_i, tyD_s, tyD_t, tyD_l, tyD_f, truD_n, truD_b, truD_i, truD_t, truD_l, asB_b, asI_i, asL_l, isL_l, isL_t, isL_i, isL_b, isL_n, itD_l, itD_t, itD_f, fApp_ap, fExt_ap, ex_some, onS_ap, ite_t, ite_f, bodyD_ap, ioD_c, start_ap, isi_int_NoneType, isi_int_bool, isi_int_int, isi_int_str, isi_int_tuple, isi_int_list, isi_int_dict, isi_bool_NoneType, isi_bool_bool, isi_bool_int, isi_bool_str, isi_bool_tuple, isi_bool_list, isi_bool_dict, isi_str_NoneType, isi_str_bool, isi_str_int, isi_str_str, isi_str_tuple, isi_str_list, isi_str_dict, isi_list_NoneType, isi_list_bool, isi_list_int, isi_list_str, isi_list_tuple, isi_list_list, isi_list_dict, isi_tuple_NoneType, isi_tuple_bool, isi_tuple_int, isi_tuple_str, isi_tuple_tuple, isi_tuple_list, isi_tuple_dict, isi_dict_NoneType, isi_dict_bool, isi_dict_int, isi_dict_str, isi_dict_tuple, isi_dict_list, isi_dict_dict, List.map_cons, List.map_nil, List.cons_append, List.nil_append, List.length_cons, List.length_nil, List.replicate_succ, List.replicate_zero, Nat.reduceAdd, Nat.reduceSub, Nat.zero_add, true_and, and_true, Bool.not_true, Bool.not_false, Bool.true_or, Bool.or_true, Bool.false_or, Bool.or_false, if_true, if_false, Bool.false_eq_true, hsl, itD_tI])
  refine for_inv (fun pre ε => ∃ ms o2 o3 o4, pre = ms.map D.int ∧ ε = [some (tI (fs ++ [k])), some (.int (gcdL ms : Nat)), o2, o3, o4]) ?_ ?_ ⟨[], none, none, none, rfl, rfl⟩
  · rintro pre d r ε e ⟨ms, o2, o3, o4, hpre, rfl⟩ N hN
    obtain ⟨z, hz, rfl⟩ := mid e
    have bz := p2 z hz
    have ez : (if z < 0 then -z else z) = (z.natAbs : Int) := by split <;> omega
    (try simp only [wC_ap, wSetI_ap, wExpr_ap, wRet_ap, wRetN_ap, wRet0_ap, wIf_ap, wFor_ap, wWhile_ap, wBreak_ap, wCont_ap, wNever_ap, wPick_ap, wCallL_ap, wOp_ap, wIxO_ap, wNoPart_ap, wPart_ap, wSl_ap, wUn_ap, wTest_ap, wChain_ap, wTru_ap, wNotT_ap, wAndT_ap, wOrT_ap, wAnd_ap, wOr_ap, wNot_ap, wIfE_ap, wNil_ap, wCons_ap, wTup_ap, wLst_ap, wCall_ap, wCall0_ap, wCallIo_ap, wYes_ap, wGn_ap, wSr_ap, wEn_ap, wZp_ap, wRg1_ap, wRg2_ap, wLc_ap, wMeth_ap, wMeth0_ap, wNext_ap, wSeq_ap, wAsg_ap, wSet_ap, wV_ap, wPar_ap, par2_ap, wGnil_ap, wGcons_ap, wGtup_ap, sl_z, sl_s, set_z, set_s, wipe_z, wipe_s, rest_z, rest_s, oAdd_i, oAdd_t, oAdd_l, oAdd_s, oSub_i, oMul_i, oMul_t, oII_i, oII0_i, oIx_l, oIx_t, oIx_f, oIsN_n, oNotN_n, oLen_l, oLen_t, oLen_f, oInt_i, oInt_b, oI1_i, oNeg_i, oList_l, oList_t, oTuple_l, oTuple_t, oBs_l, oSl_l, oSl_t, oIsi_ap, oIsi2_ap, tyD_n, tyD_b, tyD_i, tyD_s, tyD_t, tyD_l, tyD_f, truD_n, truD_b, truD_i, truD_t, truD_l, asB_b, asI_i, asL_l, isL_l, isL_t, isL_i, isL_b, isL_n, itD_l, itD_t, itD_f, fApp_ap, fExt_ap, ex_some, onS_ap, ite_t, ite_f, bodyD_ap, ioD_c, start_ap, isi_int_NoneType, isi_int_bool, isi_int_int, isi_int_str, isi_int_tuple, isi_int_list, isi_int_dict, isi_bool_NoneType, isi_bool_bool, isi_bool_int, isi_bool_str, isi_bool_tuple, isi_bool_list, isi_bool_dict, isi_str_NoneType, isi_str_bool, isi_str_int, isi_str_str, isi_str_tuple, isi_str_list, isi_str_dict, isi_list_NoneType, isi_list_bool, isi_list_int, isi_list_str, isi_list_tuple, isi_list_list, isi_list_dict, isi_tuple_NoneType, isi_tuple_bool, isi_tuple_int, isi_tuple_str, isi_tuple_tuple, isi_tuple_list, isi_tuple_dict, isi_dict_NoneType, isi_dict_bool, isi_dict_int, isi_dict_str, isi_dict_tuple, isi_dict_list, isi_dict_dict, List.map_cons, List.map_nil, List.cons_append, List.nil_append, List.length_cons, List.length_nil, List.replicate_succ, List.replicate_zero, Nat.reduceAdd, Nat.reduceSub, Nat.zero_add, true_and, and_true, Bool.not_true, Bool.not_false, Bool.true_or, Bool.or_true, Bool.false_or, Bool.or_false, if_true, if_false, Bool.false_eq_true, ez, wPar_ap, par2_ap])
    refine wh_inv (fun ε => ∃ a b : Nat, ε = [some (tI (fs ++ [k])), some (.int (gcdL ms : Nat)), some (.int z), some (.int a), some (.int b)] ∧ b ≤ 100000000 ∧ Nat.gcd a b = Nat.gcd (gcdL ms) z.natAbs) (fun ε => match sl ε 4 with | some (.int b) => b.toNat | _ => 0) ?_ ⟨_, _, rfl, bz, rfl⟩
    rintro ε ⟨a, b, rfl, hb, hg⟩ N' hN'
    (try simp only [wC_ap, wSetI_ap, wExpr_ap, wRet_ap, wRetN_ap, wRet0_ap, wIf_ap, wFor_ap, wWhile_ap, wBreak_ap, wCont_ap, wNever_ap, wPick_ap, wCallL_ap, wOp_ap, wIxO_ap, wNoPart_ap, wPart_ap, wSl_ap, wUn_ap, wTest_ap, wChain_ap, wTru_ap, wNotT_ap, wAndT_ap, wOrT_ap, wAnd_ap, wOr_ap, wNot_ap, wIfE_ap, wNil_ap, wCons_ap, wTup_ap, wLst_ap, wCall_ap, wCall0_ap, wCallIo_ap, wYes_ap, wGn_ap, wSr_ap, wEn_ap, wZp_ap, wRg1_ap, wRg2_ap, wLc_ap, wMeth_ap, wMeth0_ap, wNext_ap, wSeq_ap, wAsg_ap, wSet_ap, wV_ap, wPar_ap, par2_ap, wGnil_ap, wGcons_ap, wGtup_ap, sl_z, sl_s, set_z, set_s, wipe_z, wipe_s, rest_z, rest_s, oAdd_i, oAdd_t, oAdd_l, oAdd_s, oSub_i, oMul_i, oMul_t, oII_i, oII0_i, oIx_l, oIx_t, oIx_f, oIsN_n, oNotN_n, oLen_l, oLen_t, oLen_f, oInt_i, oInt_b, oI1_i, oNeg_i, oList_l, oList_t, oTuple_l, oTuple_t, oBs_l, oSl_l, oSl_t, oIsi_ap, oIsi2_ap, tyD_n, tyD_b, tyD_i, tyD_s, tyD_t, tyD_l, tyD_f, truD_n, truD_b, truD_i, truD_t, truD_l, asB_b, asI_i, asL_l, isL_l, isL_t, isL_i, isL_b, isL_n, itD_l, itD_t, itD_f, fApp_ap, fExt_ap, ex_some, onS_ap, ite_t, ite_f, bodyD_ap, ioD_c, start_ap, isi_int_NoneType, isi_int_bool, isi_int_int, isi_int_str, isi_int_tuple, isi_int_list, isi_int_dict, isi_bool_NoneType, isi_bool_bool, isi_bool_int, isi_bool_str, isi_bool_tuple, isi_bool_list, isi_bool_dict, isi_str_NoneType, isi_str_bool, isi_str_int, isi_str_str, isi_str_tuple, isi_str_list, isi_str_dict, isi_list_NoneType, isi_list_bool, isi_list_int, isi_list_str, isi_list_tuple, isi_list_list, isi_list_dict, isi_tuple_NoneType, isi_tuple_bool, isi_tuple_int, isi_tuple_str, isi_tuple_tuple, isi_tuple_list, isi_tuple_dict, isi_dict_NoneType, isi_dict_bool, isi_dict_int, isi_dict_str, isi_dict_tuple, isi_dict_list, isi_dict_dict, List.map_cons, List.map_nil, List.cons_append, List.nil_append, List.length_cons, List.length_nil, List.replicate_succ, List.replicate_zero, Nat.reduceAdd, Nat.reduceSub, Nat.zero_add, true_and, and_true, Bool.not_true, Bool.not_false, Bool.true_or, Bool.or_true, Bool.false_or, Bool.or_false, if_true, if_false, Bool.false_eq_true])
    by_cases h : 0 < (b : Int)
    · rw [decide_eq_true h]
      (try simp only [wC_ap, wSetI_ap, wExpr_ap, wRet_ap, wRetN_ap, wRet0_ap, wIf_ap, wFor_ap, wWhile_ap, wBreak_ap, wCont_ap, wNever_ap, wPick_ap, wCallL_ap, wOp_ap, wIxO_ap, wNoPart_ap, wPart_ap, wSl_ap, wUn_ap, wTest_ap, wChain_ap, wTru_ap, wNotT_ap, wAndT_ap, wOrT_ap, wAnd_ap, wOr_ap, wNot_ap, wIfE_ap, wNil_ap, wCons_ap, wTup_ap, wLst_ap, wCall_ap, wCall0_ap, wCallIo_ap, wYes_ap, wGn_ap, wSr_ap, wEn_ap, wZp_ap, wRg1_ap, wRg2_ap, wLc_ap, wMeth_ap, wMeth0_ap, wNext_ap, wSeq_ap, wAsg_ap, wSet_ap, wV_ap, wPar_ap, par2_ap, wGnil_ap, wGcons_ap, wGtup_ap, sl_z, sl_s, set_z, set_s, wipe_z, wipe_s, rest_z, rest_s, oAdd_i, oAdd_t, oAdd_l, oAdd_s, oSub_i, oMul_i, oMul_t, oII_i, oII0_i, oIx_l, oIx_t, oIx_f, oIsN_n, oNotN_n, oLen_l, oLen_t, oLen_f, oInt_i, oInt_b, oI1_i, oNeg_i, oList_l, oList_t, oTuple_l, oTuple_t, oBs_l, oSl_l, oSl_t, oIsi_ap, oIsi2_ap, tyD_n, tyD_b, tyD_i, tyD_s, tyD_t, tyD_l, tyD_f, truD_n, truD_b, truD_i, truD_t, truD_l, asB_b, asI_i, asL_l, isL_l, isL_t, isL_i, isL_b, isL_n, itD_l, itD_t, itD_f, fApp_ap, fExt_ap, ex_some, onS_ap, ite_t, ite_f, bodyD_ap, ioD_c, start_ap, isi_int_NoneType, isi_int_bool, isi_int_int, isi_int_str, isi_int_tuple, isi_int_list, isi_int_dict, isi_bool_NoneType, isi_bool_bool, isi_bool_int, isi_bool_str, isi_bool_tuple, isi_bool_list, isi_bool_dict, isi_str_NoneType, isi_str_bool, isi_str_int, isi_str_str, isi_str_tuple, isi_str_list, isi_str_dict, isi_list_NoneType, isi_list_bool, isi_list_int, isi_list_str, isi_list_tuple, isi_list_list, isi_list_dict, isi_tuple_NoneType, isi_tuple_bool, isi_tuple_int, isi_tuple_str, isi_tuple_tuple, isi_tuple_list, isi_tuple_dict, isi_dict_NoneType, isi_dict_bool, isi_dict_int, isi_dict_str, isi_dict_tuple, isi_dict_list, isi_dict_dict, List.map_cons, List.map_nil, List.cons_append, List.nil_append, List.length_cons, List.length_nil, List.replicate_succ, List.replicate_zero, Nat.reduceAdd, Nat.reduceSub, Nat.zero_add, true_and, and_true, Bool.not_true, Bool.not_false, Bool.true_or, Bool.or_true, Bool.false_or, Bool.or_false, if_true, if_false, Bool.false_eq_true, wPar_ap, par2_ap])
      refine ⟨divOk_s h (by omega), .inl (.inr ⟨by omega, by omega⟩), ?_⟩
      have em : (a : Int) - (a : Int).fdiv b * b = ((a % b : Nat) : Int) := by
        rw [Int.fdiv_eq_ediv_of_nonneg _ (by omega)]
        have := Int.emod_add_mul_ediv (a : Int) b
        rw [Int.mul_comm] at this
        have : (a : Int) - (a : Int) / b * b = (a : Int) % b := by omega
        rw [this]; rfl
      rw [em]
      have hlt := Nat.mod_lt a (show b > 0 by omega)
      refine hN' _ ⟨b, a % b, rfl, by omega, ?_⟩ ?_
      · rw [← hg, Nat.gcd_comm b, Nat.gcd_comm a b, Nat.gcd_rec b a]
      · show ((a % b : Nat) : Int).toNat < ((b : Nat) : Int).toNat
        omega
    · rw [decide_eq_false h]
      (try simp only [wC_ap, wSetI_ap, wExpr_ap, wRet_ap, wRetN_ap, wRet0_ap, wIf_ap, wFor_ap, wWhile_ap, wBreak_ap, wCont_ap, wNever_ap, wPick_ap, wCallL_ap, wOp_ap, wIxO_ap, wNoPart_ap, wPart_ap, wSl_ap, wUn_ap, wTest_ap, wChain_ap, wTru_ap, wNotT_ap, wAndT_ap, wOrT_ap, wAnd_ap, wOr_ap, wNot_ap, wIfE_ap, wNil_ap, wCons_ap, wTup_ap, wLst_ap, wCall_ap, wCall0_ap, wCallIo_ap, wYes_ap, wGn_ap, wSr_ap, wEn_ap, wZp_ap, wRg1_ap, wRg2_ap, wLc_ap, wMeth_ap, wMeth0_ap, wNext_ap, wSeq_ap, wAsg_ap, wSet_ap, wV_ap, wPar_ap, par2_ap, wGnil_ap, wGcons_ap, wGtup_ap, sl_z, sl_s, set_z, set_s, wipe_z, wipe_s, rest_z, rest_s, oAdd_i, oAdd_t, oAdd_l, oAdd_s, oSub_i, oMul_i, oMul_t, oII_i, oII0_i, oIx_l, oIx_t, oIx_f, oIsN_n, oNotN_n, oLen_l, oLen_t, oLen_f, oInt_i, oInt_b, oI1_i, oNeg_i, oList_l, oList_t, oTuple_l, oTuple_t, oBs_l, oSl_l, oSl_t, oIsi_ap, oIsi2_ap, tyD_n, tyD_b, tyD_i, tyD_s, tyD_t, tyD_l, tyD_f, truD_n, truD_b, truD_i, truD_t, truD_l, asB_b, asI_i, asL_l, isL_l, isL_t, isL_i, isL_b, isL_n, itD_l, itD_t, itD_f, fApp_ap, fExt_ap, ex_some, onS_ap, ite_t, ite_f, bodyD_ap, ioD_c, start_ap, isi_int_NoneType, isi_int_bool, isi_int_int, isi_int_str, isi_int_tuple, isi_int_list, isi_int_dict, isi_bool_NoneType, isi_bool_bool, isi_bool_int, isi_bool_str, isi_bool_tuple, isi_bool_list, isi_bool_dict, isi_str_NoneType, isi_str_bool, isi_str_int, isi_str_str, isi_str_tuple, isi_str_list, isi_str_dict, isi_list_NoneType, isi_list_bool, isi_list_int, isi_list_str, isi_list_tuple, isi_list_list, isi_list_dict, isi_tuple_NoneType, isi_tuple_bool, isi_tuple_int, isi_tuple_str, isi_tuple_tuple, isi_tuple_list, isi_tuple_dict, isi_dict_NoneType, isi_dict_bool, isi_dict_int, isi_dict_str, isi_dict_tuple, isi_dict_list, isi_dict_dict, List.map_cons, List.map_nil, List.cons_append, List.nil_append, List.length_cons, List.length_nil, List.replicate_succ, List.replicate_zero, Nat.reduceAdd, Nat.reduceSub, Nat.zero_add, true_and, and_true, Bool.not_true, Bool.not_false, Bool.true_or, Bool.or_true, Bool.false_or, Bool.or_false, if_true, if_false, Bool.false_eq_true])
      have hb0 : b = 0 := by omega
      subst hb0
      rw [Nat.gcd_zero_right] at hg
      refine hN _ ⟨ms ++ [z], some (.int z), some (.int a), some (.int (0 : Nat)), by rw [hpre]; simp, ?_⟩
      have : gcdL (ms ++ [z]) = Nat.gcd (gcdL ms) z.natAbs := by
        unfold gcdL
        rw [List.foldl_append]; rfl
      rw [this, ← hg]
  · rintro ε ⟨ms, o2, o3, o4, hpre, rfl⟩
    have hms : ms = fs := by
      have := congrArg (List.map fun d => match d with | D.int z => z | _ => 0) hpre
      simpa [List.map_map, Function.comp_def] using this.symm
    subst hms
    (try simp only [wC_ap, wSetI_ap, wExpr_ap, wRet_ap, wRetN_ap, wRet0_ap, wIf_ap, wFor_ap, wWhile_ap, wBreak_ap, wCont_ap, wNever_ap, wPick_ap, wCallL_ap, wOp_ap, wIxO_ap, wNoPart_ap, wPart_ap, wSl_ap, wUn_ap, wTest_ap, wChain_ap, wTru_ap, wNotT_ap, wAndT_ap, wOrT_ap, wAnd_ap, wOr_ap, wNot_ap, wIfE_ap, wNil_ap, wCons_ap, wTup_ap, wLst_ap, wCall_ap, wCall0_ap, wCallIo_ap, wYes_ap, wGn_ap, wSr_ap, wEn_ap, wZp_ap, wRg1_ap, wRg2_ap, wLc_ap, wMeth_ap, wMeth0_ap, wNext_ap, wSeq_ap, wAsg_ap, wSet_ap, wV_ap, wPar_ap, par2_ap, wGnil_ap, wGcons_ap, wGtup_ap, sl_z, sl_s, set_z, set_s, wipe_z, wipe_s, rest_z, rest_s, oAdd_i, oAdd_t, oAdd_l, oAdd_s, oSub_i, oMul_i, oMul_t, oII_i, oII0_i, oIx_l, oIx_t, oIx_f, oIsN_n, oNotN_n, oLen_l, oLen_t, oLen_f, oInt_i, oInt_b, oI1_i, oNeg_i, oList_l, oList_t, oTuple_l, oTuple_t, oBs_l, oSl_l, oSl_t, oIsi_ap, oIsi2_ap, tyD_n, tyD_b, tyD_i, tyD_s, tyD_t, tyD_l, tyD_f, truD_n, truD_b, truD_i, truD_t, truD_l, asB_b, asI_i, asL_l, isL_l, isL_t, isL_i, isL_b, isL_n, itD_l, itD_t, itD_f, fApp_ap, fExt_ap, ex_some, onS_ap, ite_t, ite_f, bodyD_ap, ioD_c, start_ap, isi_int_NoneType, isi_int_bool, isi_int_int, isi_int_str, isi_int_tuple, isi_int_list, isi_int_dict, isi_bool_NoneType, isi_bool_bool, isi_bool_int, isi_bool_str, isi_bool_tuple, isi_bool_list, isi_bool_dict, isi_str_NoneType, isi_str_bool, isi_str_int, isi_str_str, isi_str_tuple, isi_str_list, isi_str_dict, isi_list_NoneType, isi_list_bool, isi_list_int, isi_list_str, isi_list_tuple, isi_list_list, isi_list_dict, isi_tuple_NoneType, isi_tuple_bool, isi_tuple_int, isi_tuple_str, isi_tuple_tuple, isi_tuple_list, isi_tuple_dict, isi_dict_NoneType, isi_dict_bool, isi_dict_int, isi_dict_str, isi_dict_tuple, isi_dict_list, isi_dict_dict, List.map_cons, List.map_nil, List.cons_append, List.nil_append, List.length_cons, List.length_nil, List.replicate_succ, List.replicate_zero, Nat.reduceAdd, Nat.reduceSub, Nat.zero_add, true_and, and_true, Bool.not_true, Bool.not_false, Bool.true_or, Bool.or_true, Bool.false_or, Bool.or_false, if_true, if_false, Bool.false_eq_true])
    refine ⟨okD_int _ _, okD_int _ _, ?_⟩
    by_cases h : gcdL ms = 0
    · have e : eqD (.int ((gcdL ms : Nat) : Int)) (.int 0) = true := by rw [h]; exact eqD_int_self _
      (try simp only [wC_ap, wSetI_ap, wExpr_ap, wRet_ap, wRetN_ap, wRet0_ap, wIf_ap, wFor_ap, wWhile_ap, wBreak_ap, wCont_ap, wNever_ap, wPick_ap, wCallL_ap, wOp_ap, wIxO_ap, wNoPart_ap, wPart_ap, wSl_ap, wUn_ap, wTest_ap, wChain_ap, wTru_ap, wNotT_ap, wAndT_ap, wOrT_ap, wAnd_ap, wOr_ap, wNot_ap, wIfE_ap, wNil_ap, wCons_ap, wTup_ap, wLst_ap, wCall_ap, wCall0_ap, wCallIo_ap, wYes_ap, wGn_ap, wSr_ap, wEn_ap, wZp_ap, wRg1_ap, wRg2_ap, wLc_ap, wMeth_ap, wMeth0_ap, wNext_ap, wSeq_ap, wAsg_ap, wSet_ap, wV_ap, wPar_ap, par2_ap, wGnil_ap, wGcons_ap, wGtup_ap, sl_z, sl_s, set_z, set_s, wipe_z, wipe_s, rest_z, rest_s, oAdd_i, oAdd_t, oAdd_l, oAdd_s, oSub_i, oMul_i, oMul_t, oII_i, oII0_i, oIx_l, oIx_t, oIx_f, oIsN_n, oNotN_n, oLen_l, oLen_t, oLen_f, oInt_i, oInt_b, oI1_i, oNeg_i, oList_l, oList_t, oTuple_l, oTuple_t, oBs_l, oSl_l, oSl_t, oIsi_ap, oIsi2_ap, tyD_n, tyD_b, tyD_i, tyD_s, tyD_t, tyD_l, tyD_f, truD_n, truD_b, truD_i, truD_t, truD_l, asB_b, asI_i, asL_l, isL_l, isL_t, isL_i, isL_b, isL_n, itD_l, itD_t, itD_f, fApp_ap, fExt_ap, ex_some, onS_ap, ite_t, ite_f, bodyD_ap, ioD_c, start_ap, isi_int_NoneType, isi_int_bool, isi_int_int, isi_int_str, isi_int_tuple, isi_int_list, isi_int_dict, isi_bool_NoneType, isi_bool_bool, isi_bool_int, isi_bool_str, isi_bool_tuple, isi_bool_list, isi_bool_dict, isi_str_NoneType, isi_str_bool, isi_str_int, isi_str_str, isi_str_tuple, isi_str_list, isi_str_dict, isi_list_NoneType, isi_list_bool, isi_list_int, isi_list_str, isi_list_tuple, isi_list_list, isi_list_dict, isi_tuple_NoneType, isi_tuple_bool, isi_tuple_int, isi_tuple_str, isi_tuple_tuple, isi_tuple_list, isi_tuple_dict, isi_dict_NoneType, isi_dict_bool, isi_dict_int, isi_dict_str, isi_dict_tuple, isi_dict_list, isi_dict_dict, List.map_cons, List.map_nil, List.cons_append, List.nil_append, List.length_cons, List.length_nil, List.replicate_succ, List.replicate_zero, Nat.reduceAdd, Nat.reduceSub, Nat.zero_add, true_and, and_true, Bool.not_true, Bool.not_false, Bool.true_or, Bool.or_true, Bool.false_or, Bool.or_false, if_true, if_false, Bool.false_eq_true, e, hsl, hix])
      refine ⟨small_z (by decide), ?_, q _ _ ?_⟩
      · simp only [List.length_map, List.length_cons, List.length_nil]; exact small_z (by omega)
      · show _ = tI (plainS ms k)
        unfold plainS
        rw [if_pos h]
        unfold tI
        rw [List.map_append]
        by_cases hk : 0 < k
        · simp [hk]
        · simp [hk]
    · have e : eqD (.int ((gcdL ms : Nat) : Int)) (.int 0) = false := eqD_int_ne (by omega)
      (try simp only [wC_ap, wSetI_ap, wExpr_ap, wRet_ap, wRetN_ap, wRet0_ap, wIf_ap, wFor_ap, wWhile_ap, wBreak_ap, wCont_ap, wNever_ap, wPick_ap, wCallL_ap, wOp_ap, wIxO_ap, wNoPart_ap, wPart_ap, wSl_ap, wUn_ap, wTest_ap, wChain_ap, wTru_ap, wNotT_ap, wAndT_ap, wOrT_ap, wAnd_ap, wOr_ap, wNot_ap, wIfE_ap, wNil_ap, wCons_ap, wTup_ap, wLst_ap, wCall_ap, wCall0_ap, wCallIo_ap, wYes_ap, wGn_ap, wSr_ap, wEn_ap, wZp_ap, wRg1_ap, wRg2_ap, wLc_ap, wMeth_ap, wMeth0_ap, wNext_ap, wSeq_ap, wAsg_ap, wSet_ap, wV_ap, wPar_ap, par2_ap, wGnil_ap, wGcons_ap, wGtup_ap, sl_z, sl_s, set_z, set_s, wipe_z, wipe_s, rest_z, rest_s, oAdd_i, oAdd_t, oAdd_l, oAdd_s, oSub_i, oMul_i, oMul_t, oII_i, oII0_i, oIx_l, oIx_t, oIx_f, oIsN_n, oNotN_n, oLen_l, oLen_t, oLen_f, oInt_i, oInt_b, oI1_i, oNeg_i, oList_l, oList_t, oTuple_l, oTuple_t, oBs_l, oSl_l, oSl_t, oIsi_ap, oIsi2_ap, tyD_n, tyD_b, tyD_i, tyD_s, tyD_t, tyD_l, tyD_f, truD_n, truD_b, truD_i, truD_t, truD_l, asB_b, asI_i, asL_l, isL_l, isL_t, isL_i, isL_b, isL_n, itD_l, itD_t, itD_f, fApp_ap, fExt_ap, ex_some, onS_ap, ite_t, ite_f, bodyD_ap, ioD_c, start_ap, isi_int_NoneType, isi_int_bool, isi_int_int, isi_int_str, isi_int_tuple, isi_int_list, isi_int_dict, isi_bool_NoneType, isi_bool_bool, isi_bool_int, isi_bool_str, isi_bool_tuple, isi_bool_list, isi_bool_dict, isi_str_NoneType, isi_str_bool, isi_str_int, isi_str_str, isi_str_tuple, isi_str_list, isi_str_dict, isi_list_NoneType, isi_list_bool, isi_list_int, isi_list_str, isi_list_tuple, isi_list_list, isi_list_dict, isi_tuple_NoneType, isi_tuple_bool, isi_tuple_int, isi_tuple_str, isi_tuple_tuple, isi_tuple_list, isi_tuple_dict, isi_dict_NoneType, isi_dict_bool, isi_dict_int, isi_dict_str, isi_dict_tuple, isi_dict_list, isi_dict_dict, List.map_cons, List.map_nil, List.cons_append, List.nil_append, List.length_cons, List.length_nil, List.replicate_succ, List.replicate_zero, Nat.reduceAdd, Nat.reduceSub, Nat.zero_add, true_and, and_true, Bool.not_true, Bool.not_false, Bool.true_or, Bool.or_true, Bool.false_or, Bool.or_false, if_true, if_false, Bool.false_eq_true, e, hsl, hix, itD_tI])
      have g0 : 0 < (gcdL ms : Int) := by omega
      have g1 : (gcdL ms : Int) < 1073741824 := by have := gcdL_le ms p2; omega
      refine ⟨?_, lc_map (fun d => match d with | .int a => .int (a / (gcdL ms : Int)) | _ => .non) ?_ ?_⟩
      · rw [List.length_map]; exact small_z (by omega)
      · intro d hd K1 h1
        obtain ⟨z, _, rfl⟩ := List.mem_map.mp hd
        (try simp only [wC_ap, wSetI_ap, wExpr_ap, wRet_ap, wRetN_ap, wRet0_ap, wIf_ap, wFor_ap, wWhile_ap, wBreak_ap, wCont_ap, wNever_ap, wPick_ap, wCallL_ap, wOp_ap, wIxO_ap, wNoPart_ap, wPart_ap, wSl_ap, wUn_ap, wTest_ap, wChain_ap, wTru_ap, wNotT_ap, wAndT_ap, wOrT_ap, wAnd_ap, wOr_ap, wNot_ap, wIfE_ap, wNil_ap, wCons_ap, wTup_ap, wLst_ap, wCall_ap, wCall0_ap, wCallIo_ap, wYes_ap, wGn_ap, wSr_ap, wEn_ap, wZp_ap, wRg1_ap, wRg2_ap, wLc_ap, wMeth_ap, wMeth0_ap, wNext_ap, wSeq_ap, wAsg_ap, wSet_ap, wV_ap, wPar_ap, par2_ap, wGnil_ap, wGcons_ap, wGtup_ap, sl_z, sl_s, set_z, set_s, wipe_z, wipe_s, rest_z, rest_s, oAdd_i, oAdd_t, oAdd_l, oAdd_s, oSub_i, oMul_i, oMul_t, oII_i, oII0_i, oIx_l, oIx_t, oIx_f, oIsN_n, oNotN_n, oLen_l, oLen_t, oLen_f, oInt_i, oInt_b, oI1_i, oNeg_i, oList_l, oList_t, oTuple_l, oTuple_t, oBs_l, oSl_l, oSl_t, oIsi_ap, oIsi2_ap, tyD_n, tyD_b, tyD_i, tyD_s, tyD_t, tyD_l, tyD_f, truD_n, truD_b, truD_i, truD_t, truD_l, asB_b, asI_i, asL_l, isL_l, isL_t, isL_i, isL_b, isL_n, itD_l, itD_t, itD_f, fApp_ap, fExt_ap, ex_some, onS_ap, ite_t, ite_f, bodyD_ap, ioD_c, start_ap, isi_int_NoneType, isi_int_bool, isi_int_int, isi_int_str, isi_int_tuple, isi_int_list, isi_int_dict, isi_bool_NoneType, isi_bool_bool, isi_bool_int, isi_bool_str, isi_bool_tuple, isi_bool_list, isi_bool_dict, isi_str_NoneType, isi_str_bool, isi_str_int, isi_str_str, isi_str_tuple, isi_str_list, isi_str_dict, isi_list_NoneType, isi_list_bool, isi_list_int, isi_list_str, isi_list_tuple, isi_list_list, isi_list_dict, isi_tuple_NoneType, isi_tuple_bool, isi_tuple_int, isi_tuple_str, isi_tuple_tuple, isi_tuple_list, isi_tuple_dict, isi_dict_NoneType, isi_dict_bool, isi_dict_int, isi_dict_str, isi_dict_tuple, isi_dict_list, isi_dict_dict, List.map_cons, List.map_nil, List.cons_append, List.nil_append, List.length_cons, List.length_nil, List.replicate_succ, List.replicate_zero, Nat.reduceAdd, Nat.reduceSub, Nat.zero_add, true_and, and_true, Bool.not_true, Bool.not_false, Bool.true_or, Bool.or_true, Bool.false_or, Bool.or_false, if_true, if_false, Bool.false_eq_true])
        refine ⟨divOk_s g0 g1, ?_⟩
        rw [Int.fdiv_eq_ediv_of_nonneg _ (by omega)]
        exact h1 _ rfl
      · (try simp only [wC_ap, wSetI_ap, wExpr_ap, wRet_ap, wRetN_ap, wRet0_ap, wIf_ap, wFor_ap, wWhile_ap, wBreak_ap, wCont_ap, wNever_ap, wPick_ap, wCallL_ap, wOp_ap, wIxO_ap, wNoPart_ap, wPart_ap, wSl_ap, wUn_ap, wTest_ap, wChain_ap, wTru_ap, wNotT_ap, wAndT_ap, wOrT_ap, wAnd_ap, wOr_ap, wNot_ap, wIfE_ap, wNil_ap, wCons_ap, wTup_ap, wLst_ap, wCall_ap, wCall0_ap, wCallIo_ap, wYes_ap, wGn_ap, wSr_ap, wEn_ap, wZp_ap, wRg1_ap, wRg2_ap, wLc_ap, wMeth_ap, wMeth0_ap, wNext_ap, wSeq_ap, wAsg_ap, wSet_ap, wV_ap, wPar_ap, par2_ap, wGnil_ap, wGcons_ap, wGtup_ap, sl_z, sl_s, set_z, set_s, wipe_z, wipe_s, rest_z, rest_s, oAdd_i, oAdd_t, oAdd_l, oAdd_s, oSub_i, oMul_i, oMul_t, oII_i, oII0_i, oIx_l, oIx_t, oIx_f, oIsN_n, oNotN_n, oLen_l, oLen_t, oLen_f, oInt_i, oInt_b, oI1_i, oNeg_i, oList_l, oList_t, oTuple_l, oTuple_t, oBs_l, oSl_l, oSl_t, oIsi_ap, oIsi2_ap, tyD_n, tyD_b, tyD_i, tyD_s, tyD_t, tyD_l, tyD_f, truD_n, truD_b, truD_i, truD_t, truD_l, asB_b, asI_i, asL_l, isL_l, isL_t, isL_i, isL_b, isL_n, itD_l, itD_t, itD_f, fApp_ap, fExt_ap, ex_some, onS_ap, ite_t, ite_f, bodyD_ap, ioD_c, start_ap, isi_int_NoneType, isi_int_bool, isi_int_int, isi_int_str, isi_int_tuple, isi_int_list, isi_int_dict, isi_bool_NoneType, isi_bool_bool, isi_bool_int, isi_bool_str, isi_bool_tuple, isi_bool_list, isi_bool_dict, isi_str_NoneType, isi_str_bool, isi_str_int, isi_str_str, isi_str_tuple, isi_str_list, isi_str_dict, isi_list_NoneType, isi_list_bool, isi_list_int, isi_list_str, isi_list_tuple, isi_list_list, isi_list_dict, isi_tuple_NoneType, isi_tuple_bool, isi_tuple_int, isi_tuple_str, isi_tuple_tuple, isi_tuple_list, isi_tuple_dict, isi_dict_NoneType, isi_dict_bool, isi_dict_int, isi_dict_str, isi_dict_tuple, isi_dict_list, isi_dict_dict, List.map_cons, List.map_nil, List.cons_append, List.nil_append, List.length_cons, List.length_nil, List.replicate_succ, List.replicate_zero, Nat.reduceAdd, Nat.reduceSub, Nat.zero_add, true_and, and_true, Bool.not_true, Bool.not_false, Bool.true_or, Bool.or_true, Bool.false_or, Bool.or_false, if_true, if_false, Bool.false_eq_true, hix])
        refine ⟨divOk_s g0 g1, small_z (by decide), ?_, q _ _ ?_⟩
        · simp only [List.length_map, List.length_cons, List.length_nil]; exact small_z (by omega)
        · show _ = tI (plainS ms k)
          unfold plainS
          rw [if_neg h, cdiv_law k g0]
          unfold tI
          rw [List.map_append, List.map_map, List.map_map]
          rfl
end K51
set_option Elab.async false
set_option linter.all false
set_option maxRecDepth 100000
set_option maxHeartbeats 4000000
namespace K51
open PySem PySem.Spec L2 DL
open PyProof.Rows hiding St
theorem tkp {b0 b1 b2 m : Int} (h1 : 0 ≤ b1) (h2 : b1 < 2147483648) (m1 : 0 < m) (m2 : m < 1073741824) : IsBox ((D.lst [.int b0, .int b1, .int b2], m) : D × Int).1 ∧ 0 < ((D.lst [.int b0, .int b1, .int b2], m) : D × Int).2 ∧ ((D.lst [.int b0, .int b1, .int b2], m) : D × Int).2 < 1073741824 := ⟨⟨_, _, _, rfl, h1, h2⟩, m1, m2⟩
theorem rgD_len (lo : Int) (n : Nat) : (rgD lo n).length = n := by unfold rgD; simp
theorem mem_rg {lo : Int} {n : Nat} {d : D} (h : d ∈ rgD lo n) : ∃ i : Nat, i < n ∧ d = .int (lo + i) := by
  unfold rgD at h
  obtain ⟨i, hi, e⟩ := List.mem_map.mp h
  exact ⟨i, List.mem_range.mp hi, e.symm⟩
theorem pick3 {z : Nat} (h : (z : Int) < 3) : ∃ w : Int, atI [D.int 3, .int 7, .int 13] (z : Int) = some (.int w) ∧ 0 < w ∧ w ≤ 13 ∧ 0 ≤ w.fdiv 2 ∧ w.fdiv 2 ≤ 13 := by
  have : z = 0 ∨ z = 1 ∨ z = 2 := by omega
  rcases this with rfl | rfl | rfl
  · exact ⟨3, rfl, by decide, by decide, by decide, by decide⟩
  · exact ⟨7, rfl, by decide, by decide, by decide, by decide⟩
  · exact ⟨13, rfl, by decide, by decide, by decide, by decide⟩
theorem h_law_sums : ∀ ds EF PF, f_law_sums ds EF PF → ds.length = 3 ∧ bodyD 9 b_law_sums ds EF PF := by
  rintro ds EF PF ⟨⟨box, n, k⟩, rfl, ⟨⟨b0, b1, b2, e, p1, p2⟩, n1, n10, k1, k60⟩, q⟩
  refine ⟨rfl, ?_⟩
  have e : box = .lst [.int b0, .int b1, .int b2] := e
  subst e
  have n1 : 1 ≤ n := n1
  have n10 : n ≤ 10 := n10
  have k1 : 1 ≤ k := k1
  have k60 : k ≤ 60 := k60
  unfold b_law_sums
  (try simp only [wC_ap, wSetI_ap, wExpr_ap, wRet_ap, wRetN_ap, wRet0_ap, wIf_ap, wFor_ap, wWhile_ap, wBreak_ap, wCont_ap, wNever_ap, wPick_ap, wCallL_ap, wOp_ap, wIxO_ap, wNoPart_ap, wPart_ap, wSl_ap, wUn_ap, wTest_ap, wChain_ap, wTru_ap, wNotT_ap, wAndT_ap, wOrT_ap, wAnd_ap, wOr_ap, wNot_ap, wIfE_ap, wNil_ap, wCons_ap, wTup_ap, wLst_ap, wCall_ap, wCall0_ap, wCallIo_ap, wYes_ap, wGn_ap, wSr_ap, wEn_ap, wZp_ap, wRg1_ap, wRg2_ap, wLc_ap, wMeth_ap, wMeth0_ap, wNext_ap, wSeq_ap, wAsg_ap, wSet_ap, wV_ap, wPar_ap, par2_ap, wGnil_ap, wGcons_ap, wGtup_ap, sl_z, sl_s, set_z, set_s, wipe_z, wipe_s, rest_z, rest_s, oAdd_i, oAdd_t, oAdd_l, oAdd_s, oSub_i, oMul_i, oMul_t, oII_i, oII0_i, oIx_l, oIx_t, oIx_f, oIsN_n, oNotN_n, oLen_l, oLen_t, oLen_f, oInt_i, oInt_b, oI1_i, oNeg_i, oList_l, oList_t, oTuple_l, oTuple_t, oBs_l, oSl_l, oSl_t, oIsi_ap, oIsi2_ap, tyD_n, tyD_b, tyD_i, tyD_s, tyD_t, tyD_l, tyD_f, truD_n, truD_b, truD_i, truD_t, truD_l, asB_b, asI_i, asL_l, isL_l, isL_t, isL_i, isL_b, isL_n, itD_l, itD_t, itD_f, fApp_ap, fExt_ap, ex_some, onS_ap, ite_t, ite_f, bodyD_ap, ioD_c, start_ap, isi_int_NoneType, isi_int_bool, isi_int_int, isi_int_str, isi_int_tuple, isi_int_list, isi_int_dict, isi_bool_NoneType, isi_bool_bool, isi_bool_int, isi_bool_str, isi_bool_tuple, isi_bool_list, isi_bool_dict, isi_str_NoneType, isi_str_bool, isi_str_int, isi_str_str, isi_str_tuple, isi_str_list, isi_str_dict, isi_list_NoneType, isi_list_bool, isi_list_int, isi_list_str, isi_list_tuple, isi_list_list, isi_list_dict, isi_tuple_NoneType, isi_tuple_bool, isi_tuple_int, isi_tuple_str, isi_tuple_tuple, isi_tuple_list, isi_tuple_dict, isi_dict_NoneType, isi_dict_bool, isi_dict_int, isi_dict_str, isi_dict_tuple, isi_dict_list, isi_dict_dict, List.map_cons, List.map_nil, List.cons_append, List.nil_append, List.length_cons, List.length_nil, List.replicate_succ, List.replicate_zero, Nat.reduceAdd, Nat.reduceSub, Nat.zero_add, true_and, and_true, Bool.not_true, Bool.not_false, Bool.true_or, Bool.or_true, Bool.false_or, Bool.or_false, if_true, if_false, Bool.false_eq_true])
  refine ⟨small_z (by decide), small_z (by decide), (.lst [.int b0, .int b1, .int b2], 3), rfl, tkp p1 p2 (by decide) (by decide), ?_⟩
  rintro r c' ⟨⟨z, rfl, hz⟩, a0, a1, a2, rfl, ha1, ha2⟩
  obtain ⟨w, hw, w1, w2, w3, w4⟩ := pick3 hz
  (try simp only [wC_ap, wSetI_ap, wExpr_ap, wRet_ap, wRetN_ap, wRet0_ap, wIf_ap, wFor_ap, wWhile_ap, wBreak_ap, wCont_ap, wNever_ap, wPick_ap, wCallL_ap, wOp_ap, wIxO_ap, wNoPart_ap, wPart_ap, wSl_ap, wUn_ap, wTest_ap, wChain_ap, wTru_ap, wNotT_ap, wAndT_ap, wOrT_ap, wAnd_ap, wOr_ap, wNot_ap, wIfE_ap, wNil_ap, wCons_ap, wTup_ap, wLst_ap, wCall_ap, wCall0_ap, wCallIo_ap, wYes_ap, wGn_ap, wSr_ap, wEn_ap, wZp_ap, wRg1_ap, wRg2_ap, wLc_ap, wMeth_ap, wMeth0_ap, wNext_ap, wSeq_ap, wAsg_ap, wSet_ap, wV_ap, wPar_ap, par2_ap, wGnil_ap, wGcons_ap, wGtup_ap, sl_z, sl_s, set_z, set_s, wipe_z, wipe_s, rest_z, rest_s, oAdd_i, oAdd_t, oAdd_l, oAdd_s, oSub_i, oMul_i, oMul_t, oII_i, oII0_i, oIx_l, oIx_t, oIx_f, oIsN_n, oNotN_n, oLen_l, oLen_t, oLen_f, oInt_i, oInt_b, oI1_i, oNeg_i, oList_l, oList_t, oTuple_l, oTuple_t, oBs_l, oSl_l, oSl_t, oIsi_ap, oIsi2_ap, tyD_n, tyD_b, tyD_i, tyD_s, tyD_t, tyD_l, tyD_f, truD_n, truD_b, truD_i, truD_t, truD_l, asB_b, asI_i, asL_l, isL_l, isL_t, isL_i, isL_b, isL_n, itD_l, itD_t, itD_f, fApp_ap, fExt_ap, ex_some, onS_ap, ite_t, ite_f, bodyD_ap, ioD_c, start_ap, isi_int_NoneType, isi_int_bool, isi_int_int, isi_int_str, isi_int_tuple, isi_int_list, isi_int_dict, isi_bool_NoneType, isi_bool_bool, isi_bool_int, isi_bool_str, isi_bool_tuple, isi_bool_list, isi_bool_dict, isi_str_NoneType, isi_str_bool, isi_str_int, isi_str_str, isi_str_tuple, isi_str_list, isi_str_dict, isi_list_NoneType, isi_list_bool, isi_list_int, isi_list_str, isi_list_tuple, isi_list_list, isi_list_dict, isi_tuple_NoneType, isi_tuple_bool, isi_tuple_int, isi_tuple_str, isi_tuple_tuple, isi_tuple_list, isi_tuple_dict, isi_dict_NoneType, isi_dict_bool, isi_dict_int, isi_dict_str, isi_dict_tuple, isi_dict_list, isi_dict_dict, List.map_cons, List.map_nil, List.cons_append, List.nil_append, List.length_cons, List.length_nil, List.replicate_succ, List.replicate_zero, Nat.reduceAdd, Nat.reduceSub, Nat.zero_add, true_and, and_true, Bool.not_true, Bool.not_false, Bool.true_or, Bool.or_true, Bool.false_or, Bool.or_false, if_true, if_false, Bool.false_eq_true, hw])
  refine ⟨⟨by omega, by omega⟩, ?_⟩
  refine for_inv (fun pre ε => ∃ b0 b1 b2 o5 o6 ss, ε = [some (.lst [.int b0, .int b1, .int b2]), some (.int n), some (.int k), some (.lst (List.map tI ss)), some (.int w), o5, o6, none, none] ∧ 0 ≤ b1 ∧ b1 < 2147483648 ∧ ss.length = pre.length ∧ ∀ s ∈ ss, s.length = n + 1 ∧ ∀ z ∈ s, -1000 ≤ z ∧ z ≤ 1000) ?_ ?_ ⟨a0, a1, a2, none, none, [], rfl, ha1, ha2, rfl, fun s hs => nomatch hs⟩
  · rintro pre d r ε e ⟨b0, b1, b2, o5, o6, ss, rfl, hb1, hb2, hss, hall⟩ N hN
    have hpl : pre.length < k := by
      have := congrArg List.length e
      rw [rgD_len] at this
      simp at this
      omega
    (try simp only [wC_ap, wSetI_ap, wExpr_ap, wRet_ap, wRetN_ap, wRet0_ap, wIf_ap, wFor_ap, wWhile_ap, wBreak_ap, wCont_ap, wNever_ap, wPick_ap, wCallL_ap, wOp_ap, wIxO_ap, wNoPart_ap, wPart_ap, wSl_ap, wUn_ap, wTest_ap, wChain_ap, wTru_ap, wNotT_ap, wAndT_ap, wOrT_ap, wAnd_ap, wOr_ap, wNot_ap, wIfE_ap, wNil_ap, wCons_ap, wTup_ap, wLst_ap, wCall_ap, wCall0_ap, wCallIo_ap, wYes_ap, wGn_ap, wSr_ap, wEn_ap, wZp_ap, wRg1_ap, wRg2_ap, wLc_ap, wMeth_ap, wMeth0_ap, wNext_ap, wSeq_ap, wAsg_ap, wSet_ap, wV_ap, wPar_ap, par2_ap, wGnil_ap, wGcons_ap, wGtup_ap, sl_z, sl_s, set_z, set_s, wipe_z, wipe_s, rest_z, rest_s, oAdd_i, oAdd_t, oAdd_l, oAdd_s, oSub_i, oMul_i, oMul_t, oII_i, oII0_i, oIx_l, oIx_t, oIx_f, oIsN_n, oNotN_n, oLen_l, oLen_t, oLen_f, oInt_i, oInt_b, oI1_i, oNeg_i, oList_l, oList_t, oTuple_l, oTuple_t, oBs_l, oSl_l, oSl_t, oIsi_ap, oIsi2_ap, tyD_n, tyD_b, tyD_i, tyD_s, tyD_t, tyD_l, tyD_f, truD_n, truD_b, truD_i, truD_t, truD_l, asB_b, asI_i, asL_l, isL_l, isL_t, isL_i, isL_b, isL_n, itD_l, itD_t, itD_f, fApp_ap, fExt_ap, ex_some, onS_ap, ite_t, ite_f, bodyD_ap, ioD_c, start_ap, isi_int_NoneType, isi_int_bool, isi_int_int, isi_int_str, isi_int_tuple, isi_int_list, isi_int_dict, isi_bool_NoneType, isi_bool_bool, isi_bool_int, isi_bool_str, isi_bool_tuple, isi_bool_list, isi_bool_dict, isi_str_NoneType, isi_str_bool, isi_str_int, isi_str_str, isi_str_tuple, isi_str_list, isi_str_dict, isi_list_NoneType, isi_list_bool, isi_list_int, isi_list_str, isi_list_tuple, isi_list_list, isi_list_dict, isi_tuple_NoneType, isi_tuple_bool, isi_tuple_int, isi_tuple_str, isi_tuple_tuple, isi_tuple_list, isi_tuple_dict, isi_dict_NoneType, isi_dict_bool, isi_dict_int, isi_dict_str, isi_dict_tuple, isi_dict_list, isi_dict_dict, List.map_cons, List.map_nil, List.cons_append, List.nil_append, List.length_cons, List.length_nil, List.replicate_succ, List.replicate_zero, Nat.reduceAdd, Nat.reduceSub, Nat.zero_add, true_and, and_true, Bool.not_true, Bool.not_false, Bool.true_or, Bool.or_true, Bool.false_or, Bool.or_false, if_true, if_false, Bool.false_eq_true])
    refine ⟨⟨by omega, by omega⟩, by rw [rgD_len]; exact small_z (by omega), ?_⟩
    refine lc_inv (fun pre' acc ε => ∃ b0 b1 b2 fs, acc = List.map D.int fs ∧ ε = [some (.lst [.int b0, .int b1, .int b2]), some (.int n), some (.int k), some (.lst (List.map tI ss)), some (.int w), some d, o6, none, none] ∧ 0 ≤ b1 ∧ b1 < 2147483648 ∧ fs.length = pre'.length ∧ ∀ z ∈ fs, -1000 ≤ z ∧ z ≤ 1000) ?_ ?_ ⟨b0, b1, b2, [], rfl, rfl, hb1, hb2, rfl, fun s hs => nomatch hs⟩
    · rintro pre' d' r' acc ε e' ⟨b0, b1, b2, fs, rfl, rfl, hb1, hb2, hfl, hfs⟩ K1 K0 h1 h0
      (try simp only [wC_ap, wSetI_ap, wExpr_ap, wRet_ap, wRetN_ap, wRet0_ap, wIf_ap, wFor_ap, wWhile_ap, wBreak_ap, wCont_ap, wNever_ap, wPick_ap, wCallL_ap, wOp_ap, wIxO_ap, wNoPart_ap, wPart_ap, wSl_ap, wUn_ap, wTest_ap, wChain_ap, wTru_ap, wNotT_ap, wAndT_ap, wOrT_ap, wAnd_ap, wOr_ap, wNot_ap, wIfE_ap, wNil_ap, wCons_ap, wTup_ap, wLst_ap, wCall_ap, wCall0_ap, wCallIo_ap, wYes_ap, wGn_ap, wSr_ap, wEn_ap, wZp_ap, wRg1_ap, wRg2_ap, wLc_ap, wMeth_ap, wMeth0_ap, wNext_ap, wSeq_ap, wAsg_ap, wSet_ap, wV_ap, wPar_ap, par2_ap, wGnil_ap, wGcons_ap, wGtup_ap, sl_z, sl_s, set_z, set_s, wipe_z, wipe_s, rest_z, rest_s, oAdd_i, oAdd_t, oAdd_l, oAdd_s, oSub_i, oMul_i, oMul_t, oII_i, oII0_i, oIx_l, oIx_t, oIx_f, oIsN_n, oNotN_n, oLen_l, oLen_t, oLen_f, oInt_i, oInt_b, oI1_i, oNeg_i, oList_l, oList_t, oTuple_l, oTuple_t, oBs_l, oSl_l, oSl_t, oIsi_ap, oIsi2_ap, tyD_n, tyD_b, tyD_i, tyD_s, tyD_t, tyD_l, tyD_f, truD_n, truD_b, truD_i, truD_t, truD_l, asB_b, asI_i, asL_l, isL_l, isL_t, isL_i, isL_b, isL_n, itD_l, itD_t, itD_f, fApp_ap, fExt_ap, ex_some, onS_ap, ite_t, ite_f, bodyD_ap, ioD_c, start_ap, isi_int_NoneType, isi_int_bool, isi_int_int, isi_int_str, isi_int_tuple, isi_int_list, isi_int_dict, isi_bool_NoneType, isi_bool_bool, isi_bool_int, isi_bool_str, isi_bool_tuple, isi_bool_list, isi_bool_dict, isi_str_NoneType, isi_str_bool, isi_str_int, isi_str_str, isi_str_tuple, isi_str_list, isi_str_dict, isi_list_NoneType, isi_list_bool, isi_list_int, isi_list_str, isi_list_tuple, isi_list_list, isi_list_dict, isi_tuple_NoneType, isi_tuple_bool, isi_tuple_int, isi_tuple_str, isi_tuple_tuple, isi_tuple_list, isi_tuple_dict, isi_dict_NoneType, isi_dict_bool, isi_dict_int, isi_dict_str, isi_dict_tuple, isi_dict_list, isi_dict_dict, List.map_cons, List.map_nil, List.cons_append, List.nil_append, List.length_cons, List.length_nil, List.replicate_succ, List.replicate_zero, Nat.reduceAdd, Nat.reduceSub, Nat.zero_add, true_and, and_true, Bool.not_true, Bool.not_false, Bool.true_or, Bool.or_true, Bool.false_or, Bool.or_false, if_true, if_false, Bool.false_eq_true])
      refine ⟨(.lst [.int b0, .int b1, .int b2], w), rfl, ⟨⟨_, _, _, rfl, hb1, hb2⟩, w1, by show w < 1073741824; omega⟩, ?_⟩
      rintro r c' ⟨⟨z, rfl, hz⟩, y0, y1, y2, rfl, hy1, hy2⟩
      have hz : (z : Int) < w := hz
      (try simp only [wC_ap, wSetI_ap, wExpr_ap, wRet_ap, wRetN_ap, wRet0_ap, wIf_ap, wFor_ap, wWhile_ap, wBreak_ap, wCont_ap, wNever_ap, wPick_ap, wCallL_ap, wOp_ap, wIxO_ap, wNoPart_ap, wPart_ap, wSl_ap, wUn_ap, wTest_ap, wChain_ap, wTru_ap, wNotT_ap, wAndT_ap, wOrT_ap, wAnd_ap, wOr_ap, wNot_ap, wIfE_ap, wNil_ap, wCons_ap, wTup_ap, wLst_ap, wCall_ap, wCall0_ap, wCallIo_ap, wYes_ap, wGn_ap, wSr_ap, wEn_ap, wZp_ap, wRg1_ap, wRg2_ap, wLc_ap, wMeth_ap, wMeth0_ap, wNext_ap, wSeq_ap, wAsg_ap, wSet_ap, wV_ap, wPar_ap, par2_ap, wGnil_ap, wGcons_ap, wGtup_ap, sl_z, sl_s, set_z, set_s, wipe_z, wipe_s, rest_z, rest_s, oAdd_i, oAdd_t, oAdd_l, oAdd_s, oSub_i, oMul_i, oMul_t, oII_i, oII0_i, oIx_l, oIx_t, oIx_f, oIsN_n, oNotN_n, oLen_l, oLen_t, oLen_f, oInt_i, oInt_b, oI1_i, oNeg_i, oList_l, oList_t, oTuple_l, oTuple_t, oBs_l, oSl_l, oSl_t, oIsi_ap, oIsi2_ap, tyD_n, tyD_b, tyD_i, tyD_s, tyD_t, tyD_l, tyD_f, truD_n, truD_b, truD_i, truD_t, truD_l, asB_b, asI_i, asL_l, isL_l, isL_t, isL_i, isL_b, isL_n, itD_l, itD_t, itD_f, fApp_ap, fExt_ap, ex_some, onS_ap, ite_t, ite_f, bodyD_ap, ioD_c, start_ap, isi_int_NoneType, isi_int_bool, isi_int_int, isi_int_str, isi_int_tuple, isi_int_list, isi_int_dict, isi_bool_NoneType, isi_bool_bool, isi_bool_int, isi_bool_str, isi_bool_tuple, isi_bool_list, isi_bool_dict, isi_str_NoneType, isi_str_bool, isi_str_int, isi_str_str, isi_str_tuple, isi_str_list, isi_str_dict, isi_list_NoneType, isi_list_bool, isi_list_int, isi_list_str, isi_list_tuple, isi_list_list, isi_list_dict, isi_tuple_NoneType, isi_tuple_bool, isi_tuple_int, isi_tuple_str, isi_tuple_tuple, isi_tuple_list, isi_tuple_dict, isi_dict_NoneType, isi_dict_bool, isi_dict_int, isi_dict_str, isi_dict_tuple, isi_dict_list, isi_dict_dict, List.map_cons, List.map_nil, List.cons_append, List.nil_append, List.length_cons, List.length_nil, List.replicate_succ, List.replicate_zero, Nat.reduceAdd, Nat.reduceSub, Nat.zero_add, true_and, and_true, Bool.not_true, Bool.not_false, Bool.true_or, Bool.or_true, Bool.false_or, Bool.or_false, if_true, if_false, Bool.false_eq_true])
      refine ⟨divOk_s (by decide) (by decide), h1 _ _ ⟨y0, y1, y2, fs ++ [(z : Int) - w.fdiv 2], by simp, rfl, hy1, hy2, by simp [hfl], fun y hy => ?_⟩⟩
      rcases List.mem_append.mp hy with hy | hy
      · exact hfs y hy
      · rw [List.mem_singleton.mp hy]; omega
    · rintro acc ε ⟨v0, v1, v2, fs, rfl, rfl, hv1, hv2, hfl, hfs⟩
      rw [rgD_len, Int.toNat_natCast] at hfl
      (try simp only [wC_ap, wSetI_ap, wExpr_ap, wRet_ap, wRetN_ap, wRet0_ap, wIf_ap, wFor_ap, wWhile_ap, wBreak_ap, wCont_ap, wNever_ap, wPick_ap, wCallL_ap, wOp_ap, wIxO_ap, wNoPart_ap, wPart_ap, wSl_ap, wUn_ap, wTest_ap, wChain_ap, wTru_ap, wNotT_ap, wAndT_ap, wOrT_ap, wAnd_ap, wOr_ap, wNot_ap, wIfE_ap, wNil_ap, wCons_ap, wTup_ap, wLst_ap, wCall_ap, wCall0_ap, wCallIo_ap, wYes_ap, wGn_ap, wSr_ap, wEn_ap, wZp_ap, wRg1_ap, wRg2_ap, wLc_ap, wMeth_ap, wMeth0_ap, wNext_ap, wSeq_ap, wAsg_ap, wSet_ap, wV_ap, wPar_ap, par2_ap, wGnil_ap, wGcons_ap, wGtup_ap, sl_z, sl_s, set_z, set_s, wipe_z, wipe_s, rest_z, rest_s, oAdd_i, oAdd_t, oAdd_l, oAdd_s, oSub_i, oMul_i, oMul_t, oII_i, oII0_i, oIx_l, oIx_t, oIx_f, oIsN_n, oNotN_n, oLen_l, oLen_t, oLen_f, oInt_i, oInt_b, oI1_i, oNeg_i, oList_l, oList_t, oTuple_l, oTuple_t, oBs_l, oSl_l, oSl_t, oIsi_ap, oIsi2_ap, tyD_n, tyD_b, tyD_i, tyD_s, tyD_t, tyD_l, tyD_f, truD_n, truD_b, truD_i, truD_t, truD_l, asB_b, asI_i, asL_l, isL_l, isL_t, isL_i, isL_b, isL_n, itD_l, itD_t, itD_f, fApp_ap, fExt_ap, ex_some, onS_ap, ite_t, ite_f, bodyD_ap, ioD_c, start_ap, isi_int_NoneType, isi_int_bool, isi_int_int, isi_int_str, isi_int_tuple, isi_int_list, isi_int_dict, isi_bool_NoneType, isi_bool_bool, isi_bool_int, isi_bool_str, isi_bool_tuple, isi_bool_list, isi_bool_dict, isi_str_NoneType, isi_str_bool, isi_str_int, isi_str_str, isi_str_tuple, isi_str_list, isi_str_dict, isi_list_NoneType, isi_list_bool, isi_list_int, isi_list_str, isi_list_tuple, isi_list_list, isi_list_dict, isi_tuple_NoneType, isi_tuple_bool, isi_tuple_int, isi_tuple_str, isi_tuple_tuple, isi_tuple_list, isi_tuple_dict, isi_dict_NoneType, isi_dict_bool, isi_dict_int, isi_dict_str, isi_dict_tuple, isi_dict_list, isi_dict_dict, List.map_cons, List.map_nil, List.cons_append, List.nil_append, List.length_cons, List.length_nil, List.replicate_succ, List.replicate_zero, Nat.reduceAdd, Nat.reduceSub, Nat.zero_add, true_and, and_true, Bool.not_true, Bool.not_false, Bool.true_or, Bool.or_true, Bool.false_or, Bool.or_false, if_true, if_false, Bool.false_eq_true])
      refine ⟨(.lst [.int v0, .int v1, .int v2], 6), rfl, tkp hv1 hv2 (by decide) (by decide), ?_⟩
      rintro r c' ⟨⟨z, rfl, hz⟩, x0, x1, x2, rfl, hx1, hx2⟩
      refine ⟨okD_int _ _, okD_int _ _, ?_⟩
      by_cases h : z = 0
      · have hq : eqD (.int (z : Nat)) (.int 0) = true := by rw [h]; exact eqD_int_self _
        (try simp only [wC_ap, wSetI_ap, wExpr_ap, wRet_ap, wRetN_ap, wRet0_ap, wIf_ap, wFor_ap, wWhile_ap, wBreak_ap, wCont_ap, wNever_ap, wPick_ap, wCallL_ap, wOp_ap, wIxO_ap, wNoPart_ap, wPart_ap, wSl_ap, wUn_ap, wTest_ap, wChain_ap, wTru_ap, wNotT_ap, wAndT_ap, wOrT_ap, wAnd_ap, wOr_ap, wNot_ap, wIfE_ap, wNil_ap, wCons_ap, wTup_ap, wLst_ap, wCall_ap, wCall0_ap, wCallIo_ap, wYes_ap, wGn_ap, wSr_ap, wEn_ap, wZp_ap, wRg1_ap, wRg2_ap, wLc_ap, wMeth_ap, wMeth0_ap, wNext_ap, wSeq_ap, wAsg_ap, wSet_ap, wV_ap, wPar_ap, par2_ap, wGnil_ap, wGcons_ap, wGtup_ap, sl_z, sl_s, set_z, set_s, wipe_z, wipe_s, rest_z, rest_s, oAdd_i, oAdd_t, oAdd_l, oAdd_s, oSub_i, oMul_i, oMul_t, oII_i, oII0_i, oIx_l, oIx_t, oIx_f, oIsN_n, oNotN_n, oLen_l, oLen_t, oLen_f, oInt_i, oInt_b, oI1_i, oNeg_i, oList_l, oList_t, oTuple_l, oTuple_t, oBs_l, oSl_l, oSl_t, oIsi_ap, oIsi2_ap, tyD_n, tyD_b, tyD_i, tyD_s, tyD_t, tyD_l, tyD_f, truD_n, truD_b, truD_i, truD_t, truD_l, asB_b, asI_i, asL_l, isL_l, isL_t, isL_i, isL_b, isL_n, itD_l, itD_t, itD_f, fApp_ap, fExt_ap, ex_some, onS_ap, ite_t, ite_f, bodyD_ap, ioD_c, start_ap, isi_int_NoneType, isi_int_bool, isi_int_int, isi_int_str, isi_int_tuple, isi_int_list, isi_int_dict, isi_bool_NoneType, isi_bool_bool, isi_bool_int, isi_bool_str, isi_bool_tuple, isi_bool_list, isi_bool_dict, isi_str_NoneType, isi_str_bool, isi_str_int, isi_str_str, isi_str_tuple, isi_str_list, isi_str_dict, isi_list_NoneType, isi_list_bool, isi_list_int, isi_list_str, isi_list_tuple, isi_list_list, isi_list_dict, isi_tuple_NoneType, isi_tuple_bool, isi_tuple_int, isi_tuple_str, isi_tuple_tuple, isi_tuple_list, isi_tuple_dict, isi_dict_NoneType, isi_dict_bool, isi_dict_int, isi_dict_str, isi_dict_tuple, isi_dict_list, isi_dict_dict, List.map_cons, List.map_nil, List.cons_append, List.nil_append, List.length_cons, List.length_nil, List.replicate_succ, List.replicate_zero, Nat.reduceAdd, Nat.reduceSub, Nat.zero_add, true_and, and_true, Bool.not_true, Bool.not_false, Bool.true_or, Bool.or_true, Bool.false_or, Bool.or_false, if_true, if_false, Bool.false_eq_true, hq])
        refine ⟨by rw [List.length_map]; exact small_z (by omega), lc_map (fun _ => .int 0) (fun d hd K1 h1 => h1 _ rfl) ?_⟩
        have e0 : List.map (fun _ => D.int 0) (List.map D.int fs) = List.map D.int (List.replicate fs.length 0) := by
          rw [List.map_map, List.map_replicate]
          show List.map (fun _ => D.int 0) fs = _
          rw [List.map_const']
        rw [e0]
        (try simp only [wC_ap, wSetI_ap, wExpr_ap, wRet_ap, wRetN_ap, wRet0_ap, wIf_ap, wFor_ap, wWhile_ap, wBreak_ap, wCont_ap, wNever_ap, wPick_ap, wCallL_ap, wOp_ap, wIxO_ap, wNoPart_ap, wPart_ap, wSl_ap, wUn_ap, wTest_ap, wChain_ap, wTru_ap, wNotT_ap, wAndT_ap, wOrT_ap, wAnd_ap, wOr_ap, wNot_ap, wIfE_ap, wNil_ap, wCons_ap, wTup_ap, wLst_ap, wCall_ap, wCall0_ap, wCallIo_ap, wYes_ap, wGn_ap, wSr_ap, wEn_ap, wZp_ap, wRg1_ap, wRg2_ap, wLc_ap, wMeth_ap, wMeth0_ap, wNext_ap, wSeq_ap, wAsg_ap, wSet_ap, wV_ap, wPar_ap, par2_ap, wGnil_ap, wGcons_ap, wGtup_ap, sl_z, sl_s, set_z, set_s, wipe_z, wipe_s, rest_z, rest_s, oAdd_i, oAdd_t, oAdd_l, oAdd_s, oSub_i, oMul_i, oMul_t, oII_i, oII0_i, oIx_l, oIx_t, oIx_f, oIsN_n, oNotN_n, oLen_l, oLen_t, oLen_f, oInt_i, oInt_b, oI1_i, oNeg_i, oList_l, oList_t, oTuple_l, oTuple_t, oBs_l, oSl_l, oSl_t, oIsi_ap, oIsi2_ap, tyD_n, tyD_b, tyD_i, tyD_s, tyD_t, tyD_l, tyD_f, truD_n, truD_b, truD_i, truD_t, truD_l, asB_b, asI_i, asL_l, isL_l, isL_t, isL_i, isL_b, isL_n, itD_l, itD_t, itD_f, fApp_ap, fExt_ap, ex_some, onS_ap, ite_t, ite_f, bodyD_ap, ioD_c, start_ap, isi_int_NoneType, isi_int_bool, isi_int_int, isi_int_str, isi_int_tuple, isi_int_list, isi_int_dict, isi_bool_NoneType, isi_bool_bool, isi_bool_int, isi_bool_str, isi_bool_tuple, isi_bool_list, isi_bool_dict, isi_str_NoneType, isi_str_bool, isi_str_int, isi_str_str, isi_str_tuple, isi_str_list, isi_str_dict, isi_list_NoneType, isi_list_bool, isi_list_int, isi_list_str, isi_list_tuple, isi_list_list, isi_list_dict, isi_tuple_NoneType, isi_tuple_bool, isi_tuple_int, isi_tuple_str, isi_tuple_tuple, isi_tuple_list, isi_tuple_dict, isi_dict_NoneType, isi_dict_bool, isi_dict_int, isi_dict_str, isi_dict_tuple, isi_dict_list, isi_dict_dict, List.map_cons, List.map_nil, List.cons_append, List.nil_append, List.length_cons, List.length_nil, List.replicate_succ, List.replicate_zero, Nat.reduceAdd, Nat.reduceSub, Nat.zero_add, true_and, and_true, Bool.not_true, Bool.not_false, Bool.true_or, Bool.or_true, Bool.false_or, Bool.or_false, if_true, if_false, Bool.false_eq_true])

        refine ⟨(.lst [.int x0, .int x1, .int x2], 41), rfl, tkp hx1 hx2 (by decide) (by decide), ?_⟩
        rintro r c' ⟨⟨z41, rfl, hz41⟩, y0, y1, y2, rfl, hy1, hy2⟩
        have hz41 : (z41 : Int) < 41 := hz41
        (try simp only [wC_ap, wSetI_ap, wExpr_ap, wRet_ap, wRetN_ap, wRet0_ap, wIf_ap, wFor_ap, wWhile_ap, wBreak_ap, wCont_ap, wNever_ap, wPick_ap, wCallL_ap, wOp_ap, wIxO_ap, wNoPart_ap, wPart_ap, wSl_ap, wUn_ap, wTest_ap, wChain_ap, wTru_ap, wNotT_ap, wAndT_ap, wOrT_ap, wAnd_ap, wOr_ap, wNot_ap, wIfE_ap, wNil_ap, wCons_ap, wTup_ap, wLst_ap, wCall_ap, wCall0_ap, wCallIo_ap, wYes_ap, wGn_ap, wSr_ap, wEn_ap, wZp_ap, wRg1_ap, wRg2_ap, wLc_ap, wMeth_ap, wMeth0_ap, wNext_ap, wSeq_ap, wAsg_ap, wSet_ap, wV_ap, wPar_ap, par2_ap, wGnil_ap, wGcons_ap, wGtup_ap, sl_z, sl_s, set_z, set_s, wipe_z, wipe_s, rest_z, rest_s, oAdd_i, oAdd_t, oAdd_l, oAdd_s, oSub_i, oMul_i, oMul_t, oII_i, oII0_i, oIx_l, oIx_t, oIx_f, oIsN_n, oNotN_n, oLen_l, oLen_t, oLen_f, oInt_i, oInt_b, oI1_i, oNeg_i, oList_l, oList_t, oTuple_l, oTuple_t, oBs_l, oSl_l, oSl_t, oIsi_ap, oIsi2_ap, tyD_n, tyD_b, tyD_i, tyD_s, tyD_t, tyD_l, tyD_f, truD_n, truD_b, truD_i, truD_t, truD_l, asB_b, asI_i, asL_l, isL_l, isL_t, isL_i, isL_b, isL_n, itD_l, itD_t, itD_f, fApp_ap, fExt_ap, ex_some, onS_ap, ite_t, ite_f, bodyD_ap, ioD_c, start_ap, isi_int_NoneType, isi_int_bool, isi_int_int, isi_int_str, isi_int_tuple, isi_int_list, isi_int_dict, isi_bool_NoneType, isi_bool_bool, isi_bool_int, isi_bool_str, isi_bool_tuple, isi_bool_list, isi_bool_dict, isi_str_NoneType, isi_str_bool, isi_str_int, isi_str_str, isi_str_tuple, isi_str_list, isi_str_dict, isi_list_NoneType, isi_list_bool, isi_list_int, isi_list_str, isi_list_tuple, isi_list_list, isi_list_dict, isi_tuple_NoneType, isi_tuple_bool, isi_tuple_int, isi_tuple_str, isi_tuple_tuple, isi_tuple_list, isi_tuple_dict, isi_dict_NoneType, isi_dict_bool, isi_dict_int, isi_dict_str, isi_dict_tuple, isi_dict_list, isi_dict_dict, List.map_cons, List.map_nil, List.cons_append, List.nil_append, List.length_cons, List.length_nil, List.replicate_succ, List.replicate_zero, Nat.reduceAdd, Nat.reduceSub, Nat.zero_add, true_and, and_true, Bool.not_true, Bool.not_false, Bool.true_or, Bool.or_true, Bool.false_or, Bool.or_false, if_true, if_false, Bool.false_eq_true])
        refine ⟨small_z (by decide), ?_, ?_, hN _ ⟨y0, y1, y2, some d, some (.lst (List.map D.int (List.replicate fs.length 0))), ss ++ [List.replicate fs.length 0 ++ [(z41 : Int) - 20]], ?_, hy1, hy2, ?_, ?_⟩⟩
        · simp only [List.length_map, List.length_replicate]; exact small_z (by omega)
        · rw [List.length_map]; exact Nat.lt_of_le_of_lt (show _ ≤ 60 by omega) (by rw [sizeLine_eq]; decide)
        · simp [tI]
        · simp [hss]
        · intro s hs
          rcases List.mem_append.mp hs with hs | hs
          · exact hall s hs
          · rw [List.mem_singleton.mp hs]
            refine ⟨by simp [hfl], fun y hy => ?_⟩
            rcases List.mem_append.mp hy with hy | hy
            · rw [(List.mem_replicate.mp hy).2]; decide
            · rw [List.mem_singleton.mp hy]; omega
      · rw [eqD_int_ne (by omega)]
        (try simp only [wC_ap, wSetI_ap, wExpr_ap, wRet_ap, wRetN_ap, wRet0_ap, wIf_ap, wFor_ap, wWhile_ap, wBreak_ap, wCont_ap, wNever_ap, wPick_ap, wCallL_ap, wOp_ap, wIxO_ap, wNoPart_ap, wPart_ap, wSl_ap, wUn_ap, wTest_ap, wChain_ap, wTru_ap, wNotT_ap, wAndT_ap, wOrT_ap, wAnd_ap, wOr_ap, wNot_ap, wIfE_ap, wNil_ap, wCons_ap, wTup_ap, wLst_ap, wCall_ap, wCall0_ap, wCallIo_ap, wYes_ap, wGn_ap, wSr_ap, wEn_ap, wZp_ap, wRg1_ap, wRg2_ap, wLc_ap, wMeth_ap, wMeth0_ap, wNext_ap, wSeq_ap, wAsg_ap, wSet_ap, wV_ap, wPar_ap, par2_ap, wGnil_ap, wGcons_ap, wGtup_ap, sl_z, sl_s, set_z, set_s, wipe_z, wipe_s, rest_z, rest_s, oAdd_i, oAdd_t, oAdd_l, oAdd_s, oSub_i, oMul_i, oMul_t, oII_i, oII0_i, oIx_l, oIx_t, oIx_f, oIsN_n, oNotN_n, oLen_l, oLen_t, oLen_f, oInt_i, oInt_b, oI1_i, oNeg_i, oList_l, oList_t, oTuple_l, oTuple_t, oBs_l, oSl_l, oSl_t, oIsi_ap, oIsi2_ap, tyD_n, tyD_b, tyD_i, tyD_s, tyD_t, tyD_l, tyD_f, truD_n, truD_b, truD_i, truD_t, truD_l, asB_b, asI_i, asL_l, isL_l, isL_t, isL_i, isL_b, isL_n, itD_l, itD_t, itD_f, fApp_ap, fExt_ap, ex_some, onS_ap, ite_t, ite_f, bodyD_ap, ioD_c, start_ap, isi_int_NoneType, isi_int_bool, isi_int_int, isi_int_str, isi_int_tuple, isi_int_list, isi_int_dict, isi_bool_NoneType, isi_bool_bool, isi_bool_int, isi_bool_str, isi_bool_tuple, isi_bool_list, isi_bool_dict, isi_str_NoneType, isi_str_bool, isi_str_int, isi_str_str, isi_str_tuple, isi_str_list, isi_str_dict, isi_list_NoneType, isi_list_bool, isi_list_int, isi_list_str, isi_list_tuple, isi_list_list, isi_list_dict, isi_tuple_NoneType, isi_tuple_bool, isi_tuple_int, isi_tuple_str, isi_tuple_tuple, isi_tuple_list, isi_tuple_dict, isi_dict_NoneType, isi_dict_bool, isi_dict_int, isi_dict_str, isi_dict_tuple, isi_dict_list, isi_dict_dict, List.map_cons, List.map_nil, List.cons_append, List.nil_append, List.length_cons, List.length_nil, List.replicate_succ, List.replicate_zero, Nat.reduceAdd, Nat.reduceSub, Nat.zero_add, true_and, and_true, Bool.not_true, Bool.not_false, Bool.true_or, Bool.or_true, Bool.false_or, Bool.or_false, if_true, if_false, Bool.false_eq_true])

        refine ⟨(.lst [.int x0, .int x1, .int x2], 41), rfl, tkp hx1 hx2 (by decide) (by decide), ?_⟩
        rintro r c' ⟨⟨z41, rfl, hz41⟩, y0, y1, y2, rfl, hy1, hy2⟩
        have hz41 : (z41 : Int) < 41 := hz41
        (try simp only [wC_ap, wSetI_ap, wExpr_ap, wRet_ap, wRetN_ap, wRet0_ap, wIf_ap, wFor_ap, wWhile_ap, wBreak_ap, wCont_ap, wNever_ap, wPick_ap, wCallL_ap, wOp_ap, wIxO_ap, wNoPart_ap, wPart_ap, wSl_ap, wUn_ap, wTest_ap, wChain_ap, wTru_ap, wNotT_ap, wAndT_ap, wOrT_ap, wAnd_ap, wOr_ap, wNot_ap, wIfE_ap, wNil_ap, wCons_ap, wTup_ap, wLst_ap, wCall_ap, wCall0_ap, wCallIo_ap, wYes_ap, wGn_ap, wSr_ap, wEn_ap, wZp_ap, wRg1_ap, wRg2_ap, wLc_ap, wMeth_ap, wMeth0_ap, wNext_ap, wSeq_ap, wAsg_ap, wSet_ap, wV_ap, wPar_ap, par2_ap, wGnil_ap, wGcons_ap, wGtup_ap, sl_z, sl_s, set_z, set_s, wipe_z, wipe_s, rest_z, rest_s, oAdd_i, oAdd_t, oAdd_l, oAdd_s, oSub_i, oMul_i, oMul_t, oII_i, oII0_i, oIx_l, oIx_t, oIx_f, oIsN_n, oNotN_n, oLen_l, oLen_t, oLen_f, oInt_i, oInt_b, oI1_i, oNeg_i, oList_l, oList_t, oTuple_l, oTuple_t, oBs_l, oSl_l, oSl_t, oIsi_ap, oIsi2_ap, tyD_n, tyD_b, tyD_i, tyD_s, tyD_t, tyD_l, tyD_f, truD_n, truD_b, truD_i, truD_t, truD_l, asB_b, asI_i, asL_l, isL_l, isL_t, isL_i, isL_b, isL_n, itD_l, itD_t, itD_f, fApp_ap, fExt_ap, ex_some, onS_ap, ite_t, ite_f, bodyD_ap, ioD_c, start_ap, isi_int_NoneType, isi_int_bool, isi_int_int, isi_int_str, isi_int_tuple, isi_int_list, isi_int_dict, isi_bool_NoneType, isi_bool_bool, isi_bool_int, isi_bool_str, isi_bool_tuple, isi_bool_list, isi_bool_dict, isi_str_NoneType, isi_str_bool, isi_str_int, isi_str_str, isi_str_tuple, isi_str_list, isi_str_dict, isi_list_NoneType, isi_list_bool, isi_list_int, isi_list_str, isi_list_tuple, isi_list_list, isi_list_dict, isi_tuple_NoneType, isi_tuple_bool, isi_tuple_int, isi_tuple_str, isi_tuple_tuple, isi_tuple_list, isi_tuple_dict, isi_dict_NoneType, isi_dict_bool, isi_dict_int, isi_dict_str, isi_dict_tuple, isi_dict_list, isi_dict_dict, List.map_cons, List.map_nil, List.cons_append, List.nil_append, List.length_cons, List.length_nil, List.replicate_succ, List.replicate_zero, Nat.reduceAdd, Nat.reduceSub, Nat.zero_add, true_and, and_true, Bool.not_true, Bool.not_false, Bool.true_or, Bool.or_true, Bool.false_or, Bool.or_false, if_true, if_false, Bool.false_eq_true])
        refine ⟨small_z (by decide), ?_, ?_, hN _ ⟨y0, y1, y2, some d, some (.lst (List.map D.int fs)), ss ++ [fs ++ [(z41 : Int) - 20]], ?_, hy1, hy2, ?_, ?_⟩⟩
        · simp only [List.length_map, List.length_replicate]; exact small_z (by omega)
        · rw [List.length_map]; exact Nat.lt_of_le_of_lt (show _ ≤ 60 by omega) (by rw [sizeLine_eq]; decide)
        · simp [tI]
        · simp [hss]
        · intro s hs
          rcases List.mem_append.mp hs with hs | hs
          · exact hall s hs
          · rw [List.mem_singleton.mp hs]
            refine ⟨by simp [hfl], fun y hy => ?_⟩
            rcases List.mem_append.mp hy with hy | hy
            · exact hfs y hy
            · rw [List.mem_singleton.mp hy]; omega
  · rintro ε ⟨b0, b1, b2, o5, o6, ss, rfl, hb1, hb2, hss, hall⟩
    rw [rgD_len, Int.toNat_natCast] at hss
    (try simp only [wC_ap, wSetI_ap, wExpr_ap, wRet_ap, wRetN_ap, wRet0_ap, wIf_ap, wFor_ap, wWhile_ap, wBreak_ap, wCont_ap, wNever_ap, wPick_ap, wCallL_ap, wOp_ap, wIxO_ap, wNoPart_ap, wPart_ap, wSl_ap, wUn_ap, wTest_ap, wChain_ap, wTru_ap, wNotT_ap, wAndT_ap, wOrT_ap, wAnd_ap, wOr_ap, wNot_ap, wIfE_ap, wNil_ap, wCons_ap, wTup_ap, wLst_ap, wCall_ap, wCall0_ap, wCallIo_ap, wYes_ap, wGn_ap, wSr_ap, wEn_ap, wZp_ap, wRg1_ap, wRg2_ap, wLc_ap, wMeth_ap, wMeth0_ap, wNext_ap, wSeq_ap, wAsg_ap, wSet_ap, wV_ap, wPar_ap, par2_ap, wGnil_ap, wGcons_ap, wGtup_ap, sl_z, sl_s, set_z, set_s, wipe_z, wipe_s, rest_z, rest_s, oAdd_i, oAdd_t, oAdd_l, oAdd_s, oSub_i, oMul_i, oMul_t, oII_i, oII0_i, oIx_l, oIx_t, oIx_f, oIsN_n, oNotN_n, oLen_l, oLen_t, oLen_f, oInt_i, oInt_b, oI1_i, oNeg_i, oList_l, oList_t, oTuple_l, oTuple_t, oBs_l, oSl_l, oSl_t, oIsi_ap, oIsi2_ap, tyD_n, tyD_b, tyD_i, tyD_s, tyD_t, tyD_l, tyD_f, truD_n, truD_b, truD_i, truD_t, truD_l, asB_b, asI_i, asL_l, isL_l, isL_t, isL_i, isL_b, isL_n, itD_l, itD_t, itD_f, fApp_ap, fExt_ap, ex_some, onS_ap, ite_t, ite_f, bodyD_ap, ioD_c, start_ap, isi_int_NoneType, isi_int_bool, isi_int_int, isi_int_str, isi_int_tuple, isi_int_list, isi_int_dict, isi_bool_NoneType, isi_bool_bool, isi_bool_int, isi_bool_str, isi_bool_tuple, isi_bool_list, isi_bool_dict, isi_str_NoneType, isi_str_bool, isi_str_int, isi_str_str, isi_str_tuple, isi_str_list, isi_str_dict, isi_list_NoneType, isi_list_bool, isi_list_int, isi_list_str, isi_list_tuple, isi_list_list, isi_list_dict, isi_tuple_NoneType, isi_tuple_bool, isi_tuple_int, isi_tuple_str, isi_tuple_tuple, isi_tuple_list, isi_tuple_dict, isi_dict_NoneType, isi_dict_bool, isi_dict_int, isi_dict_str, isi_dict_tuple, isi_dict_list, isi_dict_dict, List.map_cons, List.map_nil, List.cons_append, List.nil_append, List.length_cons, List.length_nil, List.replicate_succ, List.replicate_zero, Nat.reduceAdd, Nat.reduceSub, Nat.zero_add, true_and, and_true, Bool.not_true, Bool.not_false, Bool.true_or, Bool.or_true, Bool.false_or, Bool.or_false, if_true, if_false, Bool.false_eq_true])
    exact q _ _ ⟨⟨ss, rfl, hss, fun s hs => (hall s hs).1, fun s hs => (hall s hs).2⟩, _, _, _, rfl, hb1, hb2⟩
end K51
set_option Elab.async false
set_option linter.all false
set_option maxRecDepth 100000
set_option maxHeartbeats 4000000
namespace K51
open PySem PySem.Spec L2 DL
open PyProof.Rows hiding St
/-! _law_cast, _law_kept -/
/-- the rows that the pair of d (below nought) and e (above) gives -/
def castG (ss : List (List Int)) (at_ : Nat) (d e : D) : Option D :=
  match d, e with
  | .tup [.int l, t], .tup [.int h, u] => if facD at_ t < 0 ∧ 0 < facD at_ u then some (rowD (pairRow ss at_ (l.toNat, h.toNat))) else none
  | _, _ => none
theorem castG_in (ss : List (List Int)) (at_ l : Nat) (s : List Int) : ∀ (i : Nat) (r : List (List Int)), (enD i (r.map tI)).filterMap (castG ss at_ (.tup [.int l, tI s])) = if facAt s at_ < 0 then (highsOf at_ i r).map (fun h => rowD (pairRow ss at_ (l, h))) else []
  | i, [] => by by_cases h : facAt s at_ < 0 <;> simp [h, enD, highsOf]
  | i, t :: r => by
    rw [List.map_cons, en_cons, List.filterMap_cons, castG_in ss at_ l s (i + 1) r, show highsOf at_ i (t :: r) = if 0 < facAt t at_ then i :: highsOf at_ (i + 1) r else highsOf at_ (i + 1) r from rfl]
    unfold castG
    simp only [facD_tI]
    by_cases h : facAt s at_ < 0 <;> by_cases h' : 0 < facAt t at_ <;> simp [h, h']
theorem castG_all (ss0 : List (List Int)) (at_ : Nat) : ∀ (i : Nat) (ss : List (List Int)), (enD i (ss.map tI)).flatMap (fun d => (enD 0 (ss0.map tI)).filterMap (castG ss0 at_ d)) = (lowsOf at_ i ss).flatMap fun l => (highsOf at_ 0 ss0).map fun h => rowD (pairRow ss0 at_ (l, h))
  | i, [] => rfl
  | i, s :: r => by
    rw [List.map_cons, en_cons, List.flatMap_cons, castG_all ss0 at_ (i + 1) r, castG_in, show lowsOf at_ i (s :: r) = if facAt s at_ < 0 then i :: lowsOf at_ (i + 1) r else lowsOf at_ (i + 1) r from rfl]
    by_cases h : facAt s at_ < 0
    · rw [if_pos h, if_pos h, List.flatMap_cons]
    · rw [if_neg h, if_neg h, List.nil_append]
theorem castG_pairs (ss : List (List Int)) (at_ : Nat) : (enD 0 (ss.map tI)).flatMap (fun d => (enD 0 (ss.map tI)).filterMap (castG ss at_ d)) = ((pairsOf ss at_).map (pairRow ss at_)).map rowD := by
  rw [castG_all]
  unfold pairsOf
  rw [List.map_map, List.map_flatMap]
  congr 1
  funext l
  rw [List.map_map]; rfl
theorem en_get {ss : List (List Int)} {pre r : List D} {d : D} (e : enD 0 (ss.map tI) = pre ++ d :: r) : ∃ s, ss[pre.length]? = some s ∧ d = .tup [.int (pre.length : Nat), tI s] ∧ pre.length < ss.length := by
  have hg : (enD 0 (ss.map tI))[pre.length]? = some d := by rw [e]; simp
  have hlt : pre.length < ss.length := by
    have := (List.getElem?_eq_some_iff.mp hg).1
    rwa [enD_len, List.length_map] at this
  have hp : (ss.map tI)[pre.length]? = some (tI ss[pre.length]) := by simp [hlt]
  have hd := enD_get 0 (ss.map tI) pre.length _ hp
  rw [hg] at hd
  injection hd with hd
  rw [Nat.zero_add] at hd
  exact ⟨ss[pre.length], List.getElem?_eq_getElem hlt, hd, hlt⟩
theorem getD_of {ss : List (List Int)} {i : Nat} {s : List Int} (h : ss[i]? = some s) : ss.getD i [] = s := by rw [List.getD_eq_getElem?_getD, h]; rfl
theorem mem_of {ss : List (List Int)} {i : Nat} {s : List Int} (h : ss[i]? = some s) : s ∈ ss := List.mem_of_getElem? h
theorem fm_len {α β : Type} (f : α → Option β) : ∀ l : List α, (l.filterMap f).length ≤ l.length
  | [] => Nat.le_refl _
  | a :: r => by
    have := fm_len f r
    rw [List.filterMap_cons]
    split <;> simp <;> omega
theorem flat_len {α β : Type} (f : α → List β) (k : Nat) : ∀ l : List α, (∀ a ∈ l, (f a).length ≤ k) → (l.flatMap f).length ≤ l.length * k
  | [], _ => by simp
  | a :: r, h => by
    have h1 := h a (List.mem_cons_self ..)
    have h2 := flat_len f k r fun b hb => h b (List.mem_cons_of_mem _ hb)
    rw [List.flatMap_cons, List.length_append, List.length_cons, Nat.succ_mul]
    omega
theorem pairS_law (l h : List Int) (at_ : Nat) : (zpD (l.map D.int) (h.map D.int)).map (fun d => match d with | .tup [.int a, .int b] => .int (facAt h at_ * a - facAt l at_ * b) | _ => .non) = (pairS l h at_).map D.int := by
  rw [zp_ints, List.map_map]
  unfold pairS
  rw [List.zipWith_map, ← List.map_uncurry_zip_eq_zipWith, List.map_map]
  congr 1
  funext p
  show D.int _ = D.int _
  congr 1
  show facAt h at_ * p.1 - facAt l at_ * p.2 = facAt h at_ * p.1 + (0 - facAt l at_) * p.2
  rw [Int.sub_mul, Int.zero_mul]; omega
theorem PlOk.s8 {s : List Int} {n : Nat} (h : PlOk s n) : small8 s.dropLast := fun z hz => h.sm z (List.dropLast_subset _ hz)
theorem PlOk.pre2 {s : List Int} {n : Nat} (h : PlOk s n) : (s.dropLast, s.getLastD 0).1.length ≤ 10 ∧ small8 (s.dropLast, s.getLastD 0).1 := ⟨h.pre.1, h.s8⟩
theorem nz_list (t : List Int) : ((t.map D.int).filterMap fun d => match d with | .int z => if z = 0 then none else some (D.int z) | _ => none).isEmpty = isZ t := by
  induction t with
  | nil => rfl
  | cons z r ih =>
    rw [List.map_cons, List.filterMap_cons]
    unfold isZ at ih ⊢
    rw [List.all_cons]
    by_cases h : z = 0
    · simp only [h, if_true, decide_true, Bool.true_and]; exact ih
    · simp [h]
theorem h_law_cast : ∀ ds EF PF, f_law_cast ds EF PF → ds.length = 2 ∧ bodyD 14 b_law_cast ds EF PF := by
  rintro ds EF PF ⟨⟨ss, n, at_⟩, rfl, p, q⟩
  refine ⟨rfl, ?_⟩
  have p : CastOk ss n at_ := p
  have hat := p.at_
  have hfew := p.few
  have hen : (enD 0 (ss.map tI)).length ≤ sizeLine := by rw [enD_len, List.length_map]; exact small_z (by omega)
  have hol := old_len at_ 0 ss
  have line : ∀ {k : Nat}, k ≤ 16000000 → k < sizeLine := fun h => by rw [sizeLine_eq]; omega
  unfold b_law_cast
  (try simp only [wC_ap, wSetI_ap, wExpr_ap, wRet_ap, wRetN_ap, wRet0_ap, wIf_ap, wFor_ap, wWhile_ap, wBreak_ap, wCont_ap, wNever_ap, wPick_ap, wCallL_ap, wOp_ap, wIxO_ap, wNoPart_ap, wPart_ap, wSl_ap, wUn_ap, wTest_ap, wChain_ap, wTru_ap, wNotT_ap, wAndT_ap, wOrT_ap, wAnd_ap, wOr_ap, wNot_ap, wIfE_ap, wNil_ap, wCons_ap, wTup_ap, wLst_ap, wCall_ap, wCall0_ap, wCallIo_ap, wYes_ap, wGn_ap, wSr_ap, wEn_ap, wZp_ap, wRg1_ap, wRg2_ap, wLc_ap, wMeth_ap, wMeth0_ap, wNext_ap, wSeq_ap, wAsg_ap, wSet_ap, wV_ap, wPar_ap, par2_ap, wGnil_ap, wGcons_ap, wGtup_ap, sl_z, sl_s, set_z, set_s, wipe_z, wipe_s, rest_z, rest_s, oAdd_i, oAdd_t, oAdd_l, oAdd_s, oSub_i, oMul_i, oMul_t, oII_i, oII0_i, oIx_l, oIx_t, oIx_f, oIsN_n, oNotN_n, oLen_l, oLen_t, oLen_f, oInt_i, oInt_b, oI1_i, oNeg_i, oList_l, oList_t, oTuple_l, oTuple_t, oBs_l, oSl_l, oSl_t, oIsi_ap, oIsi2_ap, tyD_n, tyD_b, tyD_i, tyD_s, tyD_t, tyD_l, tyD_f, truD_n, truD_b, truD_i, truD_t, truD_l, asB_b, asI_i, asL_l, isL_l, isL_t, isL_i, isL_b, isL_n, itD_l, itD_t, itD_f, fApp_ap, fExt_ap, ex_some, onS_ap, ite_t, ite_f, bodyD_ap, ioD_c, start_ap, isi_int_NoneType, isi_int_bool, isi_int_int, isi_int_str, isi_int_tuple, isi_int_list, isi_int_dict, isi_bool_NoneType, isi_bool_bool, isi_bool_int, isi_bool_str, isi_bool_tuple, isi_bool_list, isi_bool_dict, isi_str_NoneType, isi_str_bool, isi_str_int, isi_str_str, isi_str_tuple, isi_str_list, isi_str_dict, isi_list_NoneType, isi_list_bool, isi_list_int, isi_list_str, isi_list_tuple, isi_list_list, isi_list_dict, isi_tuple_NoneType, isi_tuple_bool, isi_tuple_int, isi_tuple_str, isi_tuple_tuple, isi_tuple_list, isi_tuple_dict, isi_dict_NoneType, isi_dict_bool, isi_dict_int, isi_dict_str, isi_dict_tuple, isi_dict_list, isi_dict_dict, List.map_cons, List.map_nil, List.cons_append, List.nil_append, List.length_cons, List.length_nil, List.replicate_succ, List.replicate_zero, Nat.reduceAdd, Nat.reduceSub, Nat.zero_add, true_and, and_true, Bool.not_true, Bool.not_false, Bool.true_or, Bool.or_true, Bool.false_or, Bool.or_false, if_true, if_false, Bool.false_eq_true])
  refine ⟨small_z (by decide), ?_⟩
  refine for_inv (fun pre ε => ∃ o3 o4, ε = [some (.lst (ss.map tI)), some (.int at_), some (.lst (pre.filterMap (oldF at_))), o3, o4, none, none, none, none, none, none, none, none, none]) ?_ ?_ ⟨none, none, rfl⟩
  · rintro pre d r ε e ⟨o3, o4, rfl⟩ N hN
    obtain ⟨s, hs, rfl, hlt⟩ := en_get e
    have ms := mem_of hs
    have hl := p.len s ms
    (try simp only [wC_ap, wSetI_ap, wExpr_ap, wRet_ap, wRetN_ap, wRet0_ap, wIf_ap, wFor_ap, wWhile_ap, wBreak_ap, wCont_ap, wNever_ap, wPick_ap, wCallL_ap, wOp_ap, wIxO_ap, wNoPart_ap, wPart_ap, wSl_ap, wUn_ap, wTest_ap, wChain_ap, wTru_ap, wNotT_ap, wAndT_ap, wOrT_ap, wAnd_ap, wOr_ap, wNot_ap, wIfE_ap, wNil_ap, wCons_ap, wTup_ap, wLst_ap, wCall_ap, wCall0_ap, wCallIo_ap, wYes_ap, wGn_ap, wSr_ap, wEn_ap, wZp_ap, wRg1_ap, wRg2_ap, wLc_ap, wMeth_ap, wMeth0_ap, wNext_ap, wSeq_ap, wAsg_ap, wSet_ap, wV_ap, wPar_ap, par2_ap, wGnil_ap, wGcons_ap, wGtup_ap, sl_z, sl_s, set_z, set_s, wipe_z, wipe_s, rest_z, rest_s, oAdd_i, oAdd_t, oAdd_l, oAdd_s, oSub_i, oMul_i, oMul_t, oII_i, oII0_i, oIx_l, oIx_t, oIx_f, oIsN_n, oNotN_n, oLen_l, oLen_t, oLen_f, oInt_i, oInt_b, oI1_i, oNeg_i, oList_l, oList_t, oTuple_l, oTuple_t, oBs_l, oSl_l, oSl_t, oIsi_ap, oIsi2_ap, tyD_n, tyD_b, tyD_i, tyD_s, tyD_t, tyD_l, tyD_f, truD_n, truD_b, truD_i, truD_t, truD_l, asB_b, asI_i, asL_l, isL_l, isL_t, isL_i, isL_b, isL_n, itD_l, itD_t, itD_f, fApp_ap, fExt_ap, ex_some, onS_ap, ite_t, ite_f, bodyD_ap, ioD_c, start_ap, isi_int_NoneType, isi_int_bool, isi_int_int, isi_int_str, isi_int_tuple, isi_int_list, isi_int_dict, isi_bool_NoneType, isi_bool_bool, isi_bool_int, isi_bool_str, isi_bool_tuple, isi_bool_list, isi_bool_dict, isi_str_NoneType, isi_str_bool, isi_str_int, isi_str_str, isi_str_tuple, isi_str_list, isi_str_dict, isi_list_NoneType, isi_list_bool, isi_list_int, isi_list_str, isi_list_tuple, isi_list_list, isi_list_dict, isi_tuple_NoneType, isi_tuple_bool, isi_tuple_int, isi_tuple_str, isi_tuple_tuple, isi_tuple_list, isi_tuple_dict, isi_dict_NoneType, isi_dict_bool, isi_dict_int, isi_dict_str, isi_dict_tuple, isi_dict_list, isi_dict_dict, List.map_cons, List.map_nil, List.cons_append, List.nil_append, List.length_cons, List.length_nil, List.replicate_succ, List.replicate_zero, Nat.reduceAdd, Nat.reduceSub, Nat.zero_add, true_and, and_true, Bool.not_true, Bool.not_false, Bool.true_or, Bool.or_true, Bool.false_or, Bool.or_false, if_true, if_false, Bool.false_eq_true, oIx_tI, facAt_at (show at_ < s.length by omega)])
    refine ⟨okD_int _ _, okD_int _ _, ?_⟩
    rw [eqD_int]
    by_cases h : facAt s at_ = 0
    · rw [decide_eq_true h]
      (try simp only [wC_ap, wSetI_ap, wExpr_ap, wRet_ap, wRetN_ap, wRet0_ap, wIf_ap, wFor_ap, wWhile_ap, wBreak_ap, wCont_ap, wNever_ap, wPick_ap, wCallL_ap, wOp_ap, wIxO_ap, wNoPart_ap, wPart_ap, wSl_ap, wUn_ap, wTest_ap, wChain_ap, wTru_ap, wNotT_ap, wAndT_ap, wOrT_ap, wAnd_ap, wOr_ap, wNot_ap, wIfE_ap, wNil_ap, wCons_ap, wTup_ap, wLst_ap, wCall_ap, wCall0_ap, wCallIo_ap, wYes_ap, wGn_ap, wSr_ap, wEn_ap, wZp_ap, wRg1_ap, wRg2_ap, wLc_ap, wMeth_ap, wMeth0_ap, wNext_ap, wSeq_ap, wAsg_ap, wSet_ap, wV_ap, wPar_ap, par2_ap, wGnil_ap, wGcons_ap, wGtup_ap, sl_z, sl_s, set_z, set_s, wipe_z, wipe_s, rest_z, rest_s, oAdd_i, oAdd_t, oAdd_l, oAdd_s, oSub_i, oMul_i, oMul_t, oII_i, oII0_i, oIx_l, oIx_t, oIx_f, oIsN_n, oNotN_n, oLen_l, oLen_t, oLen_f, oInt_i, oInt_b, oI1_i, oNeg_i, oList_l, oList_t, oTuple_l, oTuple_t, oBs_l, oSl_l, oSl_t, oIsi_ap, oIsi2_ap, tyD_n, tyD_b, tyD_i, tyD_s, tyD_t, tyD_l, tyD_f, truD_n, truD_b, truD_i, truD_t, truD_l, asB_b, asI_i, asL_l, isL_l, isL_t, isL_i, isL_b, isL_n, itD_l, itD_t, itD_f, fApp_ap, fExt_ap, ex_some, onS_ap, ite_t, ite_f, bodyD_ap, ioD_c, start_ap, isi_int_NoneType, isi_int_bool, isi_int_int, isi_int_str, isi_int_tuple, isi_int_list, isi_int_dict, isi_bool_NoneType, isi_bool_bool, isi_bool_int, isi_bool_str, isi_bool_tuple, isi_bool_list, isi_bool_dict, isi_str_NoneType, isi_str_bool, isi_str_int, isi_str_str, isi_str_tuple, isi_str_list, isi_str_dict, isi_list_NoneType, isi_list_bool, isi_list_int, isi_list_str, isi_list_tuple, isi_list_list, isi_list_dict, isi_tuple_NoneType, isi_tuple_bool, isi_tuple_int, isi_tuple_str, isi_tuple_tuple, isi_tuple_list, isi_tuple_dict, isi_dict_NoneType, isi_dict_bool, isi_dict_int, isi_dict_str, isi_dict_tuple, isi_dict_list, isi_dict_dict, List.map_cons, List.map_nil, List.cons_append, List.nil_append, List.length_cons, List.length_nil, List.replicate_succ, List.replicate_zero, Nat.reduceAdd, Nat.reduceSub, Nat.zero_add, true_and, and_true, Bool.not_true, Bool.not_false, Bool.true_or, Bool.or_true, Bool.false_or, Bool.or_false, if_true, if_false, Bool.false_eq_true])
      refine ⟨(s.dropLast, s.getLastD 0), ?_, (p.pl ms).pre2, ?_⟩
      · show [tI s] = [tI (s.dropLast ++ [s.getLastD 0])]
        rw [split_last (p.pl ms).ne]
      rintro r c' rfl
      refine ⟨small_z (by decide), small_z (by decide), line ?_, hN _ ⟨some (.int (pre.length : Nat)), some (tI s), ?_⟩⟩
      · exact Nat.le_trans (fm_len _ _) (by omega)
      · simp [oldF_ap, h, plainR]
    · rw [decide_eq_false h]
      (try simp only [wC_ap, wSetI_ap, wExpr_ap, wRet_ap, wRetN_ap, wRet0_ap, wIf_ap, wFor_ap, wWhile_ap, wBreak_ap, wCont_ap, wNever_ap, wPick_ap, wCallL_ap, wOp_ap, wIxO_ap, wNoPart_ap, wPart_ap, wSl_ap, wUn_ap, wTest_ap, wChain_ap, wTru_ap, wNotT_ap, wAndT_ap, wOrT_ap, wAnd_ap, wOr_ap, wNot_ap, wIfE_ap, wNil_ap, wCons_ap, wTup_ap, wLst_ap, wCall_ap, wCall0_ap, wCallIo_ap, wYes_ap, wGn_ap, wSr_ap, wEn_ap, wZp_ap, wRg1_ap, wRg2_ap, wLc_ap, wMeth_ap, wMeth0_ap, wNext_ap, wSeq_ap, wAsg_ap, wSet_ap, wV_ap, wPar_ap, par2_ap, wGnil_ap, wGcons_ap, wGtup_ap, sl_z, sl_s, set_z, set_s, wipe_z, wipe_s, rest_z, rest_s, oAdd_i, oAdd_t, oAdd_l, oAdd_s, oSub_i, oMul_i, oMul_t, oII_i, oII0_i, oIx_l, oIx_t, oIx_f, oIsN_n, oNotN_n, oLen_l, oLen_t, oLen_f, oInt_i, oInt_b, oI1_i, oNeg_i, oList_l, oList_t, oTuple_l, oTuple_t, oBs_l, oSl_l, oSl_t, oIsi_ap, oIsi2_ap, tyD_n, tyD_b, tyD_i, tyD_s, tyD_t, tyD_l, tyD_f, truD_n, truD_b, truD_i, truD_t, truD_l, asB_b, asI_i, asL_l, isL_l, isL_t, isL_i, isL_b, isL_n, itD_l, itD_t, itD_f, fApp_ap, fExt_ap, ex_some, onS_ap, ite_t, ite_f, bodyD_ap, ioD_c, start_ap, isi_int_NoneType, isi_int_bool, isi_int_int, isi_int_str, isi_int_tuple, isi_int_list, isi_int_dict, isi_bool_NoneType, isi_bool_bool, isi_bool_int, isi_bool_str, isi_bool_tuple, isi_bool_list, isi_bool_dict, isi_str_NoneType, isi_str_bool, isi_str_int, isi_str_str, isi_str_tuple, isi_str_list, isi_str_dict, isi_list_NoneType, isi_list_bool, isi_list_int, isi_list_str, isi_list_tuple, isi_list_list, isi_list_dict, isi_tuple_NoneType, isi_tuple_bool, isi_tuple_int, isi_tuple_str, isi_tuple_tuple, isi_tuple_list, isi_tuple_dict, isi_dict_NoneType, isi_dict_bool, isi_dict_int, isi_dict_str, isi_dict_tuple, isi_dict_list, isi_dict_dict, List.map_cons, List.map_nil, List.cons_append, List.nil_append, List.length_cons, List.length_nil, List.replicate_succ, List.replicate_zero, Nat.reduceAdd, Nat.reduceSub, Nat.zero_add, true_and, and_true, Bool.not_true, Bool.not_false, Bool.true_or, Bool.or_true, Bool.false_or, Bool.or_false, if_true, if_false, Bool.false_eq_true])
      refine hN _ ⟨some (.int (pre.length : Nat)), some (tI s), ?_⟩
      simp [oldF_ap, h]
  · rintro ε ⟨o3, o4, rfl⟩
    rw [en_old]
    (try simp only [wC_ap, wSetI_ap, wExpr_ap, wRet_ap, wRetN_ap, wRet0_ap, wIf_ap, wFor_ap, wWhile_ap, wBreak_ap, wCont_ap, wNever_ap, wPick_ap, wCallL_ap, wOp_ap, wIxO_ap, wNoPart_ap, wPart_ap, wSl_ap, wUn_ap, wTest_ap, wChain_ap, wTru_ap, wNotT_ap, wAndT_ap, wOrT_ap, wAnd_ap, wOr_ap, wNot_ap, wIfE_ap, wNil_ap, wCons_ap, wTup_ap, wLst_ap, wCall_ap, wCall0_ap, wCallIo_ap, wYes_ap, wGn_ap, wSr_ap, wEn_ap, wZp_ap, wRg1_ap, wRg2_ap, wLc_ap, wMeth_ap, wMeth0_ap, wNext_ap, wSeq_ap, wAsg_ap, wSet_ap, wV_ap, wPar_ap, par2_ap, wGnil_ap, wGcons_ap, wGtup_ap, sl_z, sl_s, set_z, set_s, wipe_z, wipe_s, rest_z, rest_s, oAdd_i, oAdd_t, oAdd_l, oAdd_s, oSub_i, oMul_i, oMul_t, oII_i, oII0_i, oIx_l, oIx_t, oIx_f, oIsN_n, oNotN_n, oLen_l, oLen_t, oLen_f, oInt_i, oInt_b, oI1_i, oNeg_i, oList_l, oList_t, oTuple_l, oTuple_t, oBs_l, oSl_l, oSl_t, oIsi_ap, oIsi2_ap, tyD_n, tyD_b, tyD_i, tyD_s, tyD_t, tyD_l, tyD_f, truD_n, truD_b, truD_i, truD_t, truD_l, asB_b, asI_i, asL_l, isL_l, isL_t, isL_i, isL_b, isL_n, itD_l, itD_t, itD_f, fApp_ap, fExt_ap, ex_some, onS_ap, ite_t, ite_f, bodyD_ap, ioD_c, start_ap, isi_int_NoneType, isi_int_bool, isi_int_int, isi_int_str, isi_int_tuple, isi_int_list, isi_int_dict, isi_bool_NoneType, isi_bool_bool, isi_bool_int, isi_bool_str, isi_bool_tuple, isi_bool_list, isi_bool_dict, isi_str_NoneType, isi_str_bool, isi_str_int, isi_str_str, isi_str_tuple, isi_str_list, isi_str_dict, isi_list_NoneType, isi_list_bool, isi_list_int, isi_list_str, isi_list_tuple, isi_list_list, isi_list_dict, isi_tuple_NoneType, isi_tuple_bool, isi_tuple_int, isi_tuple_str, isi_tuple_tuple, isi_tuple_list, isi_tuple_dict, isi_dict_NoneType, isi_dict_bool, isi_dict_int, isi_dict_str, isi_dict_tuple, isi_dict_list, isi_dict_dict, List.map_cons, List.map_nil, List.cons_append, List.nil_append, List.length_cons, List.length_nil, List.replicate_succ, List.replicate_zero, Nat.reduceAdd, Nat.reduceSub, Nat.zero_add, true_and, and_true, Bool.not_true, Bool.not_false, Bool.true_or, Bool.or_true, Bool.false_or, Bool.or_false, if_true, if_false, Bool.false_eq_true])
    refine ⟨small_z (by decide), ?_⟩
    refine for_inv (fun pre ε => ∃ o3 o4 o6 o7 o8 o9 ps, ε = [some (.lst (ss.map tI)), some (.int at_), some (.lst ((oldRows at_ 0 ss).map rowD ++ pre.flatMap fun d => (enD 0 (ss.map tI)).filterMap (castG ss at_ d))), o3, o4, some (.lst ps), o6, o7, o8, o9, none, none, none, none] ∧ ps.length ≤ pre.length * 100) ?_ ?_ ⟨o3, o4, none, none, none, none, [], by simp, by simp⟩
    · rintro pre d r ε e ⟨o3, o4, o6, o7, o8, o9, ps, rfl, hps⟩ N hN
      obtain ⟨s, hs, rfl, hlt⟩ := en_get e
      have ms := mem_of hs
      have hl := p.len s ms
      have hout : (pre.flatMap fun d => (enD 0 (ss.map tI)).filterMap (castG ss at_ d)).length ≤ pre.length * 100 := flat_len _ 100 _ fun a _ => Nat.le_trans (fm_len _ _) (by rw [enD_len, List.length_map]; exact hfew)
      (try simp only [wC_ap, wSetI_ap, wExpr_ap, wRet_ap, wRetN_ap, wRet0_ap, wIf_ap, wFor_ap, wWhile_ap, wBreak_ap, wCont_ap, wNever_ap, wPick_ap, wCallL_ap, wOp_ap, wIxO_ap, wNoPart_ap, wPart_ap, wSl_ap, wUn_ap, wTest_ap, wChain_ap, wTru_ap, wNotT_ap, wAndT_ap, wOrT_ap, wAnd_ap, wOr_ap, wNot_ap, wIfE_ap, wNil_ap, wCons_ap, wTup_ap, wLst_ap, wCall_ap, wCall0_ap, wCallIo_ap, wYes_ap, wGn_ap, wSr_ap, wEn_ap, wZp_ap, wRg1_ap, wRg2_ap, wLc_ap, wMeth_ap, wMeth0_ap, wNext_ap, wSeq_ap, wAsg_ap, wSet_ap, wV_ap, wPar_ap, par2_ap, wGnil_ap, wGcons_ap, wGtup_ap, sl_z, sl_s, set_z, set_s, wipe_z, wipe_s, rest_z, rest_s, oAdd_i, oAdd_t, oAdd_l, oAdd_s, oSub_i, oMul_i, oMul_t, oII_i, oII0_i, oIx_l, oIx_t, oIx_f, oIsN_n, oNotN_n, oLen_l, oLen_t, oLen_f, oInt_i, oInt_b, oI1_i, oNeg_i, oList_l, oList_t, oTuple_l, oTuple_t, oBs_l, oSl_l, oSl_t, oIsi_ap, oIsi2_ap, tyD_n, tyD_b, tyD_i, tyD_s, tyD_t, tyD_l, tyD_f, truD_n, truD_b, truD_i, truD_t, truD_l, asB_b, asI_i, asL_l, isL_l, isL_t, isL_i, isL_b, isL_n, itD_l, itD_t, itD_f, fApp_ap, fExt_ap, ex_some, onS_ap, ite_t, ite_f, bodyD_ap, ioD_c, start_ap, isi_int_NoneType, isi_int_bool, isi_int_int, isi_int_str, isi_int_tuple, isi_int_list, isi_int_dict, isi_bool_NoneType, isi_bool_bool, isi_bool_int, isi_bool_str, isi_bool_tuple, isi_bool_list, isi_bool_dict, isi_str_NoneType, isi_str_bool, isi_str_int, isi_str_str, isi_str_tuple, isi_str_list, isi_str_dict, isi_list_NoneType, isi_list_bool, isi_list_int, isi_list_str, isi_list_tuple, isi_list_list, isi_list_dict, isi_tuple_NoneType, isi_tuple_bool, isi_tuple_int, isi_tuple_str, isi_tuple_tuple, isi_tuple_list, isi_tuple_dict, isi_dict_NoneType, isi_dict_bool, isi_dict_int, isi_dict_str, isi_dict_tuple, isi_dict_list, isi_dict_dict, List.map_cons, List.map_nil, List.cons_append, List.nil_append, List.length_cons, List.length_nil, List.replicate_succ, List.replicate_zero, Nat.reduceAdd, Nat.reduceSub, Nat.zero_add, true_and, and_true, Bool.not_true, Bool.not_false, Bool.true_or, Bool.or_true, Bool.false_or, Bool.or_false, if_true, if_false, Bool.false_eq_true])
      refine for_inv (fun pre2 ε => ∃ o7 o8 o9 ps', ε = [some (.lst (ss.map tI)), some (.int at_), some (.lst (((oldRows at_ 0 ss).map rowD ++ pre.flatMap fun d => (enD 0 (ss.map tI)).filterMap (castG ss at_ d)) ++ pre2.filterMap (castG ss at_ (.tup [.int (pre.length : Nat), tI s])))), o3, some (tI s), some (.lst ps'), some (.int (pre.length : Nat)), o7, o8, o9, none, none, none, none] ∧ ps'.length ≤ pre.length * 100 + pre2.length) ?_ ?_ ⟨o7, o8, o9, ps, by simp, by simpa using hps⟩
      · rintro pre2 d2 r2 ε e2 ⟨o7, o8, o9, ps', rfl, hps'⟩ N2 hN2
        obtain ⟨t, ht, rfl, hlt2⟩ := en_get e2
        have mt := mem_of ht
        have hl2 := p.len t mt
        have hp1 : pre.length * 100 ≤ 100 * 100 := Nat.mul_le_mul (by omega) (Nat.le_refl _)
        (try simp only [wC_ap, wSetI_ap, wExpr_ap, wRet_ap, wRetN_ap, wRet0_ap, wIf_ap, wFor_ap, wWhile_ap, wBreak_ap, wCont_ap, wNever_ap, wPick_ap, wCallL_ap, wOp_ap, wIxO_ap, wNoPart_ap, wPart_ap, wSl_ap, wUn_ap, wTest_ap, wChain_ap, wTru_ap, wNotT_ap, wAndT_ap, wOrT_ap, wAnd_ap, wOr_ap, wNot_ap, wIfE_ap, wNil_ap, wCons_ap, wTup_ap, wLst_ap, wCall_ap, wCall0_ap, wCallIo_ap, wYes_ap, wGn_ap, wSr_ap, wEn_ap, wZp_ap, wRg1_ap, wRg2_ap, wLc_ap, wMeth_ap, wMeth0_ap, wNext_ap, wSeq_ap, wAsg_ap, wSet_ap, wV_ap, wPar_ap, par2_ap, wGnil_ap, wGcons_ap, wGtup_ap, sl_z, sl_s, set_z, set_s, wipe_z, wipe_s, rest_z, rest_s, oAdd_i, oAdd_t, oAdd_l, oAdd_s, oSub_i, oMul_i, oMul_t, oII_i, oII0_i, oIx_l, oIx_t, oIx_f, oIsN_n, oNotN_n, oLen_l, oLen_t, oLen_f, oInt_i, oInt_b, oI1_i, oNeg_i, oList_l, oList_t, oTuple_l, oTuple_t, oBs_l, oSl_l, oSl_t, oIsi_ap, oIsi2_ap, tyD_n, tyD_b, tyD_i, tyD_s, tyD_t, tyD_l, tyD_f, truD_n, truD_b, truD_i, truD_t, truD_l, asB_b, asI_i, asL_l, isL_l, isL_t, isL_i, isL_b, isL_n, itD_l, itD_t, itD_f, fApp_ap, fExt_ap, ex_some, onS_ap, ite_t, ite_f, bodyD_ap, ioD_c, start_ap, isi_int_NoneType, isi_int_bool, isi_int_int, isi_int_str, isi_int_tuple, isi_int_list, isi_int_dict, isi_bool_NoneType, isi_bool_bool, isi_bool_int, isi_bool_str, isi_bool_tuple, isi_bool_list, isi_bool_dict, isi_str_NoneType, isi_str_bool, isi_str_int, isi_str_str, isi_str_tuple, isi_str_list, isi_str_dict, isi_list_NoneType, isi_list_bool, isi_list_int, isi_list_str, isi_list_tuple, isi_list_list, isi_list_dict, isi_tuple_NoneType, isi_tuple_bool, isi_tuple_int, isi_tuple_str, isi_tuple_tuple, isi_tuple_list, isi_tuple_dict, isi_dict_NoneType, isi_dict_bool, isi_dict_int, isi_dict_str, isi_dict_tuple, isi_dict_list, isi_dict_dict, List.map_cons, List.map_nil, List.cons_append, List.nil_append, List.length_cons, List.length_nil, List.replicate_succ, List.replicate_zero, Nat.reduceAdd, Nat.reduceSub, Nat.zero_add, true_and, and_true, Bool.not_true, Bool.not_false, Bool.true_or, Bool.or_true, Bool.false_or, Bool.or_false, if_true, if_false, Bool.false_eq_true, oIx_tI, facAt_at (show at_ < s.length by omega), facAt_at (show at_ < t.length by omega)])
        by_cases h : facAt s at_ < 0
        · rw [decide_eq_true h]
          (try simp only [wC_ap, wSetI_ap, wExpr_ap, wRet_ap, wRetN_ap, wRet0_ap, wIf_ap, wFor_ap, wWhile_ap, wBreak_ap, wCont_ap, wNever_ap, wPick_ap, wCallL_ap, wOp_ap, wIxO_ap, wNoPart_ap, wPart_ap, wSl_ap, wUn_ap, wTest_ap, wChain_ap, wTru_ap, wNotT_ap, wAndT_ap, wOrT_ap, wAnd_ap, wOr_ap, wNot_ap, wIfE_ap, wNil_ap, wCons_ap, wTup_ap, wLst_ap, wCall_ap, wCall0_ap, wCallIo_ap, wYes_ap, wGn_ap, wSr_ap, wEn_ap, wZp_ap, wRg1_ap, wRg2_ap, wLc_ap, wMeth_ap, wMeth0_ap, wNext_ap, wSeq_ap, wAsg_ap, wSet_ap, wV_ap, wPar_ap, par2_ap, wGnil_ap, wGcons_ap, wGtup_ap, sl_z, sl_s, set_z, set_s, wipe_z, wipe_s, rest_z, rest_s, oAdd_i, oAdd_t, oAdd_l, oAdd_s, oSub_i, oMul_i, oMul_t, oII_i, oII0_i, oIx_l, oIx_t, oIx_f, oIsN_n, oNotN_n, oLen_l, oLen_t, oLen_f, oInt_i, oInt_b, oI1_i, oNeg_i, oList_l, oList_t, oTuple_l, oTuple_t, oBs_l, oSl_l, oSl_t, oIsi_ap, oIsi2_ap, tyD_n, tyD_b, tyD_i, tyD_s, tyD_t, tyD_l, tyD_f, truD_n, truD_b, truD_i, truD_t, truD_l, asB_b, asI_i, asL_l, isL_l, isL_t, isL_i, isL_b, isL_n, itD_l, itD_t, itD_f, fApp_ap, fExt_ap, ex_some, onS_ap, ite_t, ite_f, bodyD_ap, ioD_c, start_ap, isi_int_NoneType, isi_int_bool, isi_int_int, isi_int_str, isi_int_tuple, isi_int_list, isi_int_dict, isi_bool_NoneType, isi_bool_bool, isi_bool_int, isi_bool_str, isi_bool_tuple, isi_bool_list, isi_bool_dict, isi_str_NoneType, isi_str_bool, isi_str_int, isi_str_str, isi_str_tuple, isi_str_list, isi_str_dict, isi_list_NoneType, isi_list_bool, isi_list_int, isi_list_str, isi_list_tuple, isi_list_list, isi_list_dict, isi_tuple_NoneType, isi_tuple_bool, isi_tuple_int, isi_tuple_str, isi_tuple_tuple, isi_tuple_list, isi_tuple_dict, isi_dict_NoneType, isi_dict_bool, isi_dict_int, isi_dict_str, isi_dict_tuple, isi_dict_list, isi_dict_dict, List.map_cons, List.map_nil, List.cons_append, List.nil_append, List.length_cons, List.length_nil, List.replicate_succ, List.replicate_zero, Nat.reduceAdd, Nat.reduceSub, Nat.zero_add, true_and, and_true, Bool.not_true, Bool.not_false, Bool.true_or, Bool.or_true, Bool.false_or, Bool.or_false, if_true, if_false, Bool.false_eq_true])
          by_cases h' : 0 < facAt t at_
          · rw [decide_eq_true h']
            (try simp only [wC_ap, wSetI_ap, wExpr_ap, wRet_ap, wRetN_ap, wRet0_ap, wIf_ap, wFor_ap, wWhile_ap, wBreak_ap, wCont_ap, wNever_ap, wPick_ap, wCallL_ap, wOp_ap, wIxO_ap, wNoPart_ap, wPart_ap, wSl_ap, wUn_ap, wTest_ap, wChain_ap, wTru_ap, wNotT_ap, wAndT_ap, wOrT_ap, wAnd_ap, wOr_ap, wNot_ap, wIfE_ap, wNil_ap, wCons_ap, wTup_ap, wLst_ap, wCall_ap, wCall0_ap, wCallIo_ap, wYes_ap, wGn_ap, wSr_ap, wEn_ap, wZp_ap, wRg1_ap, wRg2_ap, wLc_ap, wMeth_ap, wMeth0_ap, wNext_ap, wSeq_ap, wAsg_ap, wSet_ap, wV_ap, wPar_ap, par2_ap, wGnil_ap, wGcons_ap, wGtup_ap, sl_z, sl_s, set_z, set_s, wipe_z, wipe_s, rest_z, rest_s, oAdd_i, oAdd_t, oAdd_l, oAdd_s, oSub_i, oMul_i, oMul_t, oII_i, oII0_i, oIx_l, oIx_t, oIx_f, oIsN_n, oNotN_n, oLen_l, oLen_t, oLen_f, oInt_i, oInt_b, oI1_i, oNeg_i, oList_l, oList_t, oTuple_l, oTuple_t, oBs_l, oSl_l, oSl_t, oIsi_ap, oIsi2_ap, tyD_n, tyD_b, tyD_i, tyD_s, tyD_t, tyD_l, tyD_f, truD_n, truD_b, truD_i, truD_t, truD_l, asB_b, asI_i, asL_l, isL_l, isL_t, isL_i, isL_b, isL_n, itD_l, itD_t, itD_f, fApp_ap, fExt_ap, ex_some, onS_ap, ite_t, ite_f, bodyD_ap, ioD_c, start_ap, isi_int_NoneType, isi_int_bool, isi_int_int, isi_int_str, isi_int_tuple, isi_int_list, isi_int_dict, isi_bool_NoneType, isi_bool_bool, isi_bool_int, isi_bool_str, isi_bool_tuple, isi_bool_list, isi_bool_dict, isi_str_NoneType, isi_str_bool, isi_str_int, isi_str_str, isi_str_tuple, isi_str_list, isi_str_dict, isi_list_NoneType, isi_list_bool, isi_list_int, isi_list_str, isi_list_tuple, isi_list_list, isi_list_dict, isi_tuple_NoneType, isi_tuple_bool, isi_tuple_int, isi_tuple_str, isi_tuple_tuple, isi_tuple_list, isi_tuple_dict, isi_dict_NoneType, isi_dict_bool, isi_dict_int, isi_dict_str, isi_dict_tuple, isi_dict_list, isi_dict_dict, List.map_cons, List.map_nil, List.cons_append, List.nil_append, List.length_cons, List.length_nil, List.replicate_succ, List.replicate_zero, Nat.reduceAdd, Nat.reduceSub, Nat.zero_add, true_and, and_true, Bool.not_true, Bool.not_false, Bool.true_or, Bool.or_true, Bool.false_or, Bool.or_false, if_true, if_false, Bool.false_eq_true, itD_tI])
            refine ⟨?_, lc_map (fun d => match d with | .tup [.int a, .int b] => .int (facAt t at_ * a - facAt s at_ * b) | _ => .non) ?_ ?_⟩
            · rw [zpD_len, List.length_map, List.length_map]; exact small_z (by have := p.n10; omega)
            · intro d hd K1 h1
              obtain ⟨a, b, rfl⟩ := mem_zp hd
              have b1 := facAt_bnd (i := at_) (p.sm s ms)
              have b2 := facAt_bnd (i := at_) (p.sm t mt)
              (try simp only [wC_ap, wSetI_ap, wExpr_ap, wRet_ap, wRetN_ap, wRet0_ap, wIf_ap, wFor_ap, wWhile_ap, wBreak_ap, wCont_ap, wNever_ap, wPick_ap, wCallL_ap, wOp_ap, wIxO_ap, wNoPart_ap, wPart_ap, wSl_ap, wUn_ap, wTest_ap, wChain_ap, wTru_ap, wNotT_ap, wAndT_ap, wOrT_ap, wAnd_ap, wOr_ap, wNot_ap, wIfE_ap, wNil_ap, wCons_ap, wTup_ap, wLst_ap, wCall_ap, wCall0_ap, wCallIo_ap, wYes_ap, wGn_ap, wSr_ap, wEn_ap, wZp_ap, wRg1_ap, wRg2_ap, wLc_ap, wMeth_ap, wMeth0_ap, wNext_ap, wSeq_ap, wAsg_ap, wSet_ap, wV_ap, wPar_ap, par2_ap, wGnil_ap, wGcons_ap, wGtup_ap, sl_z, sl_s, set_z, set_s, wipe_z, wipe_s, rest_z, rest_s, oAdd_i, oAdd_t, oAdd_l, oAdd_s, oSub_i, oMul_i, oMul_t, oII_i, oII0_i, oIx_l, oIx_t, oIx_f, oIsN_n, oNotN_n, oLen_l, oLen_t, oLen_f, oInt_i, oInt_b, oI1_i, oNeg_i, oList_l, oList_t, oTuple_l, oTuple_t, oBs_l, oSl_l, oSl_t, oIsi_ap, oIsi2_ap, tyD_n, tyD_b, tyD_i, tyD_s, tyD_t, tyD_l, tyD_f, truD_n, truD_b, truD_i, truD_t, truD_l, asB_b, asI_i, asL_l, isL_l, isL_t, isL_i, isL_b, isL_n, itD_l, itD_t, itD_f, fApp_ap, fExt_ap, ex_some, onS_ap, ite_t, ite_f, bodyD_ap, ioD_c, start_ap, isi_int_NoneType, isi_int_bool, isi_int_int, isi_int_str, isi_int_tuple, isi_int_list, isi_int_dict, isi_bool_NoneType, isi_bool_bool, isi_bool_int, isi_bool_str, isi_bool_tuple, isi_bool_list, isi_bool_dict, isi_str_NoneType, isi_str_bool, isi_str_int, isi_str_str, isi_str_tuple, isi_str_list, isi_str_dict, isi_list_NoneType, isi_list_bool, isi_list_int, isi_list_str, isi_list_tuple, isi_list_list, isi_list_dict, isi_tuple_NoneType, isi_tuple_bool, isi_tuple_int, isi_tuple_str, isi_tuple_tuple, isi_tuple_list, isi_tuple_dict, isi_dict_NoneType, isi_dict_bool, isi_dict_int, isi_dict_str, isi_dict_tuple, isi_dict_list, isi_dict_dict, List.map_cons, List.map_nil, List.cons_append, List.nil_append, List.length_cons, List.length_nil, List.replicate_succ, List.replicate_zero, Nat.reduceAdd, Nat.reduceSub, Nat.zero_add, true_and, and_true, Bool.not_true, Bool.not_false, Bool.true_or, Bool.or_true, Bool.false_or, Bool.or_false, if_true, if_false, Bool.false_eq_true, oIx_tI, facAt_at (show at_ < s.length by omega), facAt_at (show at_ < t.length by omega)])
              exact ⟨mulOk_l (by omega) (by omega), mulOk_l (by omega) (by omega), h1 _ rfl⟩
            · rw [pairS_law]
              have pp := pair_pl p ms mt
              (try simp only [wC_ap, wSetI_ap, wExpr_ap, wRet_ap, wRetN_ap, wRet0_ap, wIf_ap, wFor_ap, wWhile_ap, wBreak_ap, wCont_ap, wNever_ap, wPick_ap, wCallL_ap, wOp_ap, wIxO_ap, wNoPart_ap, wPart_ap, wSl_ap, wUn_ap, wTest_ap, wChain_ap, wTru_ap, wNotT_ap, wAndT_ap, wOrT_ap, wAnd_ap, wOr_ap, wNot_ap, wIfE_ap, wNil_ap, wCons_ap, wTup_ap, wLst_ap, wCall_ap, wCall0_ap, wCallIo_ap, wYes_ap, wGn_ap, wSr_ap, wEn_ap, wZp_ap, wRg1_ap, wRg2_ap, wLc_ap, wMeth_ap, wMeth0_ap, wNext_ap, wSeq_ap, wAsg_ap, wSet_ap, wV_ap, wPar_ap, par2_ap, wGnil_ap, wGcons_ap, wGtup_ap, sl_z, sl_s, set_z, set_s, wipe_z, wipe_s, rest_z, rest_s, oAdd_i, oAdd_t, oAdd_l, oAdd_s, oSub_i, oMul_i, oMul_t, oII_i, oII0_i, oIx_l, oIx_t, oIx_f, oIsN_n, oNotN_n, oLen_l, oLen_t, oLen_f, oInt_i, oInt_b, oI1_i, oNeg_i, oList_l, oList_t, oTuple_l, oTuple_t, oBs_l, oSl_l, oSl_t, oIsi_ap, oIsi2_ap, tyD_n, tyD_b, tyD_i, tyD_s, tyD_t, tyD_l, tyD_f, truD_n, truD_b, truD_i, truD_t, truD_l, asB_b, asI_i, asL_l, isL_l, isL_t, isL_i, isL_b, isL_n, itD_l, itD_t, itD_f, fApp_ap, fExt_ap, ex_some, onS_ap, ite_t, ite_f, bodyD_ap, ioD_c, start_ap, isi_int_NoneType, isi_int_bool, isi_int_int, isi_int_str, isi_int_tuple, isi_int_list, isi_int_dict, isi_bool_NoneType, isi_bool_bool, isi_bool_int, isi_bool_str, isi_bool_tuple, isi_bool_list, isi_bool_dict, isi_str_NoneType, isi_str_bool, isi_str_int, isi_str_str, isi_str_tuple, isi_str_list, isi_str_dict, isi_list_NoneType, isi_list_bool, isi_list_int, isi_list_str, isi_list_tuple, isi_list_list, isi_list_dict, isi_tuple_NoneType, isi_tuple_bool, isi_tuple_int, isi_tuple_str, isi_tuple_tuple, isi_tuple_list, isi_tuple_dict, isi_dict_NoneType, isi_dict_bool, isi_dict_int, isi_dict_str, isi_dict_tuple, isi_dict_list, isi_dict_dict, List.map_cons, List.map_nil, List.cons_append, List.nil_append, List.length_cons, List.length_nil, List.replicate_succ, List.replicate_zero, Nat.reduceAdd, Nat.reduceSub, Nat.zero_add, true_and, and_true, Bool.not_true, Bool.not_false, Bool.true_or, Bool.or_true, Bool.false_or, Bool.or_false, if_true, if_false, Bool.false_eq_true])
              refine ⟨small_z (by decide), line (by omega), ((pairS s t at_).dropLast, (pairS s t at_).getLastD 0), ?_, pp.pre2, ?_⟩
              · show [tI (pairS s t at_)] = [tI ((pairS s t at_).dropLast ++ [(pairS s t at_).getLastD 0])]
                rw [split_last pp.ne]
              rintro r c' rfl
              have hfm := fm_len (castG ss at_ (.tup [.int (pre.length : Nat), tI s])) pre2
              refine ⟨small_z (by decide), small_z (by decide), line ?_, hN2 _ ⟨some (.int (pre2.length : Nat)), some (tI t), some (tI (pairS s t at_)), ps' ++ [.tup [.int (pre.length : Nat), .int (pre2.length : Nat), tI (pairS s t at_)]], ?_, ?_⟩⟩
              · simp only [List.length_append, List.length_map]
                omega
              · have eg : castG ss at_ (.tup [.int (pre.length : Nat), tI s]) (.tup [.int (pre2.length : Nat), tI t]) = some (rowD (pairRow ss at_ (pre.length, pre2.length))) := by
                  unfold castG
                  simp only [facD_tI, Int.toNat_natCast]
                  rw [if_pos ⟨h, h'⟩]
                rw [List.filterMap_append, List.filterMap_cons, eg, List.filterMap_nil, ← List.append_assoc]
                unfold rowD pairRow Mk.d
                rw [getD_of hs, getD_of ht]
                rfl
              · simp only [List.length_append, List.length_cons, List.length_nil]; omega
          · rw [decide_eq_false h']
            (try simp only [wC_ap, wSetI_ap, wExpr_ap, wRet_ap, wRetN_ap, wRet0_ap, wIf_ap, wFor_ap, wWhile_ap, wBreak_ap, wCont_ap, wNever_ap, wPick_ap, wCallL_ap, wOp_ap, wIxO_ap, wNoPart_ap, wPart_ap, wSl_ap, wUn_ap, wTest_ap, wChain_ap, wTru_ap, wNotT_ap, wAndT_ap, wOrT_ap, wAnd_ap, wOr_ap, wNot_ap, wIfE_ap, wNil_ap, wCons_ap, wTup_ap, wLst_ap, wCall_ap, wCall0_ap, wCallIo_ap, wYes_ap, wGn_ap, wSr_ap, wEn_ap, wZp_ap, wRg1_ap, wRg2_ap, wLc_ap, wMeth_ap, wMeth0_ap, wNext_ap, wSeq_ap, wAsg_ap, wSet_ap, wV_ap, wPar_ap, par2_ap, wGnil_ap, wGcons_ap, wGtup_ap, sl_z, sl_s, set_z, set_s, wipe_z, wipe_s, rest_z, rest_s, oAdd_i, oAdd_t, oAdd_l, oAdd_s, oSub_i, oMul_i, oMul_t, oII_i, oII0_i, oIx_l, oIx_t, oIx_f, oIsN_n, oNotN_n, oLen_l, oLen_t, oLen_f, oInt_i, oInt_b, oI1_i, oNeg_i, oList_l, oList_t, oTuple_l, oTuple_t, oBs_l, oSl_l, oSl_t, oIsi_ap, oIsi2_ap, tyD_n, tyD_b, tyD_i, tyD_s, tyD_t, tyD_l, tyD_f, truD_n, truD_b, truD_i, truD_t, truD_l, asB_b, asI_i, asL_l, isL_l, isL_t, isL_i, isL_b, isL_n, itD_l, itD_t, itD_f, fApp_ap, fExt_ap, ex_some, onS_ap, ite_t, ite_f, bodyD_ap, ioD_c, start_ap, isi_int_NoneType, isi_int_bool, isi_int_int, isi_int_str, isi_int_tuple, isi_int_list, isi_int_dict, isi_bool_NoneType, isi_bool_bool, isi_bool_int, isi_bool_str, isi_bool_tuple, isi_bool_list, isi_bool_dict, isi_str_NoneType, isi_str_bool, isi_str_int, isi_str_str, isi_str_tuple, isi_str_list, isi_str_dict, isi_list_NoneType, isi_list_bool, isi_list_int, isi_list_str, isi_list_tuple, isi_list_list, isi_list_dict, isi_tuple_NoneType, isi_tuple_bool, isi_tuple_int, isi_tuple_str, isi_tuple_tuple, isi_tuple_list, isi_tuple_dict, isi_dict_NoneType, isi_dict_bool, isi_dict_int, isi_dict_str, isi_dict_tuple, isi_dict_list, isi_dict_dict, List.map_cons, List.map_nil, List.cons_append, List.nil_append, List.length_cons, List.length_nil, List.replicate_succ, List.replicate_zero, Nat.reduceAdd, Nat.reduceSub, Nat.zero_add, true_and, and_true, Bool.not_true, Bool.not_false, Bool.true_or, Bool.or_true, Bool.false_or, Bool.or_false, if_true, if_false, Bool.false_eq_true])
            refine hN2 _ ⟨some (.int (pre2.length : Nat)), some (tI t), o9, ps', ?_, by simp only [List.length_append, List.length_cons, List.length_nil]; omega⟩
            have eg : castG ss at_ (.tup [.int (pre.length : Nat), tI s]) (.tup [.int (pre2.length : Nat), tI t]) = none := by
              unfold castG
              simp only [facD_tI, Int.toNat_natCast]
              rw [if_neg fun z => h' z.2]
            rw [List.filterMap_append, List.filterMap_cons, eg, List.filterMap_nil, List.append_nil]
        · rw [decide_eq_false h]
          (try simp only [wC_ap, wSetI_ap, wExpr_ap, wRet_ap, wRetN_ap, wRet0_ap, wIf_ap, wFor_ap, wWhile_ap, wBreak_ap, wCont_ap, wNever_ap, wPick_ap, wCallL_ap, wOp_ap, wIxO_ap, wNoPart_ap, wPart_ap, wSl_ap, wUn_ap, wTest_ap, wChain_ap, wTru_ap, wNotT_ap, wAndT_ap, wOrT_ap, wAnd_ap, wOr_ap, wNot_ap, wIfE_ap, wNil_ap, wCons_ap, wTup_ap, wLst_ap, wCall_ap, wCall0_ap, wCallIo_ap, wYes_ap, wGn_ap, wSr_ap, wEn_ap, wZp_ap, wRg1_ap, wRg2_ap, wLc_ap, wMeth_ap, wMeth0_ap, wNext_ap, wSeq_ap, wAsg_ap, wSet_ap, wV_ap, wPar_ap, par2_ap, wGnil_ap, wGcons_ap, wGtup_ap, sl_z, sl_s, set_z, set_s, wipe_z, wipe_s, rest_z, rest_s, oAdd_i, oAdd_t, oAdd_l, oAdd_s, oSub_i, oMul_i, oMul_t, oII_i, oII0_i, oIx_l, oIx_t, oIx_f, oIsN_n, oNotN_n, oLen_l, oLen_t, oLen_f, oInt_i, oInt_b, oI1_i, oNeg_i, oList_l, oList_t, oTuple_l, oTuple_t, oBs_l, oSl_l, oSl_t, oIsi_ap, oIsi2_ap, tyD_n, tyD_b, tyD_i, tyD_s, tyD_t, tyD_l, tyD_f, truD_n, truD_b, truD_i, truD_t, truD_l, asB_b, asI_i, asL_l, isL_l, isL_t, isL_i, isL_b, isL_n, itD_l, itD_t, itD_f, fApp_ap, fExt_ap, ex_some, onS_ap, ite_t, ite_f, bodyD_ap, ioD_c, start_ap, isi_int_NoneType, isi_int_bool, isi_int_int, isi_int_str, isi_int_tuple, isi_int_list, isi_int_dict, isi_bool_NoneType, isi_bool_bool, isi_bool_int, isi_bool_str, isi_bool_tuple, isi_bool_list, isi_bool_dict, isi_str_NoneType, isi_str_bool, isi_str_int, isi_str_str, isi_str_tuple, isi_str_list, isi_str_dict, isi_list_NoneType, isi_list_bool, isi_list_int, isi_list_str, isi_list_tuple, isi_list_list, isi_list_dict, isi_tuple_NoneType, isi_tuple_bool, isi_tuple_int, isi_tuple_str, isi_tuple_tuple, isi_tuple_list, isi_tuple_dict, isi_dict_NoneType, isi_dict_bool, isi_dict_int, isi_dict_str, isi_dict_tuple, isi_dict_list, isi_dict_dict, List.map_cons, List.map_nil, List.cons_append, List.nil_append, List.length_cons, List.length_nil, List.replicate_succ, List.replicate_zero, Nat.reduceAdd, Nat.reduceSub, Nat.zero_add, true_and, and_true, Bool.not_true, Bool.not_false, Bool.true_or, Bool.or_true, Bool.false_or, Bool.or_false, if_true, if_false, Bool.false_eq_true])
          refine hN2 _ ⟨some (.int (pre2.length : Nat)), some (tI t), o9, ps', ?_, by simp only [List.length_append, List.length_cons, List.length_nil]; omega⟩
          have eg : castG ss at_ (.tup [.int (pre.length : Nat), tI s]) (.tup [.int (pre2.length : Nat), tI t]) = none := by
            unfold castG
            simp only [facD_tI, Int.toNat_natCast]
            rw [if_neg fun z => h z.1]
          rw [List.filterMap_append, List.filterMap_cons, eg, List.filterMap_nil, List.append_nil]
      · rintro ε ⟨o7, o8, o9, ps', rfl, hps'⟩
        rw [enD_len, List.length_map] at hps'
        refine hN _ ⟨o3, some (tI s), some (.int (pre.length : Nat)), o7, o8, o9, ps', ?_, ?_⟩
        · simp
        · simp only [List.length_append, List.length_cons, List.length_nil, Nat.add_mul]; omega
    · rintro ε ⟨o3, o4, o6, o7, o8, o9, ps, rfl, hps⟩
      rw [castG_pairs, ← List.map_append]
      have hpl := pairs_len (at_ := at_) hfew
      (try simp only [wC_ap, wSetI_ap, wExpr_ap, wRet_ap, wRetN_ap, wRet0_ap, wIf_ap, wFor_ap, wWhile_ap, wBreak_ap, wCont_ap, wNever_ap, wPick_ap, wCallL_ap, wOp_ap, wIxO_ap, wNoPart_ap, wPart_ap, wSl_ap, wUn_ap, wTest_ap, wChain_ap, wTru_ap, wNotT_ap, wAndT_ap, wOrT_ap, wAnd_ap, wOr_ap, wNot_ap, wIfE_ap, wNil_ap, wCons_ap, wTup_ap, wLst_ap, wCall_ap, wCall0_ap, wCallIo_ap, wYes_ap, wGn_ap, wSr_ap, wEn_ap, wZp_ap, wRg1_ap, wRg2_ap, wLc_ap, wMeth_ap, wMeth0_ap, wNext_ap, wSeq_ap, wAsg_ap, wSet_ap, wV_ap, wPar_ap, par2_ap, wGnil_ap, wGcons_ap, wGtup_ap, sl_z, sl_s, set_z, set_s, wipe_z, wipe_s, rest_z, rest_s, oAdd_i, oAdd_t, oAdd_l, oAdd_s, oSub_i, oMul_i, oMul_t, oII_i, oII0_i, oIx_l, oIx_t, oIx_f, oIsN_n, oNotN_n, oLen_l, oLen_t, oLen_f, oInt_i, oInt_b, oI1_i, oNeg_i, oList_l, oList_t, oTuple_l, oTuple_t, oBs_l, oSl_l, oSl_t, oIsi_ap, oIsi2_ap, tyD_n, tyD_b, tyD_i, tyD_s, tyD_t, tyD_l, tyD_f, truD_n, truD_b, truD_i, truD_t, truD_l, asB_b, asI_i, asL_l, isL_l, isL_t, isL_i, isL_b, isL_n, itD_l, itD_t, itD_f, fApp_ap, fExt_ap, ex_some, onS_ap, ite_t, ite_f, bodyD_ap, ioD_c, start_ap, isi_int_NoneType, isi_int_bool, isi_int_int, isi_int_str, isi_int_tuple, isi_int_list, isi_int_dict, isi_bool_NoneType, isi_bool_bool, isi_bool_int, isi_bool_str, isi_bool_tuple, isi_bool_list, isi_bool_dict, isi_str_NoneType, isi_str_bool, isi_str_int, isi_str_str, isi_str_tuple, isi_str_list, isi_str_dict, isi_list_NoneType, isi_list_bool, isi_list_int, isi_list_str, isi_list_tuple, isi_list_list, isi_list_dict, isi_tuple_NoneType, isi_tuple_bool, isi_tuple_int, isi_tuple_str, isi_tuple_tuple, isi_tuple_list, isi_tuple_dict, isi_dict_NoneType, isi_dict_bool, isi_dict_int, isi_dict_str, isi_dict_tuple, isi_dict_list, isi_dict_dict, List.map_cons, List.map_nil, List.cons_append, List.nil_append, List.length_cons, List.length_nil, List.replicate_succ, List.replicate_zero, Nat.reduceAdd, Nat.reduceSub, Nat.zero_add, true_and, and_true, Bool.not_true, Bool.not_false, Bool.true_or, Bool.or_true, Bool.false_or, Bool.or_false, if_true, if_false, Bool.false_eq_true])
      refine ⟨?_, lc_fm (fun d => match d with | .tup [t, _] => if isZ (intsD t) = true then none else some d | _ => none) ?_ ?_⟩
      · simp only [List.length_map, List.length_append]
        exact small_z (by omega)
      · intro d hd K1 K0 h1 h0
        obtain ⟨⟨t, m⟩, hr, rfl⟩ := List.mem_map.mp hd
        have hlen := rowsAll_len p _ hr
        have hlen' : t.length = n + 1 := hlen
        unfold rowD
        (try simp only [wC_ap, wSetI_ap, wExpr_ap, wRet_ap, wRetN_ap, wRet0_ap, wIf_ap, wFor_ap, wWhile_ap, wBreak_ap, wCont_ap, wNever_ap, wPick_ap, wCallL_ap, wOp_ap, wIxO_ap, wNoPart_ap, wPart_ap, wSl_ap, wUn_ap, wTest_ap, wChain_ap, wTru_ap, wNotT_ap, wAndT_ap, wOrT_ap, wAnd_ap, wOr_ap, wNot_ap, wIfE_ap, wNil_ap, wCons_ap, wTup_ap, wLst_ap, wCall_ap, wCall0_ap, wCallIo_ap, wYes_ap, wGn_ap, wSr_ap, wEn_ap, wZp_ap, wRg1_ap, wRg2_ap, wLc_ap, wMeth_ap, wMeth0_ap, wNext_ap, wSeq_ap, wAsg_ap, wSet_ap, wV_ap, wPar_ap, par2_ap, wGnil_ap, wGcons_ap, wGtup_ap, sl_z, sl_s, set_z, set_s, wipe_z, wipe_s, rest_z, rest_s, oAdd_i, oAdd_t, oAdd_l, oAdd_s, oSub_i, oMul_i, oMul_t, oII_i, oII0_i, oIx_l, oIx_t, oIx_f, oIsN_n, oNotN_n, oLen_l, oLen_t, oLen_f, oInt_i, oInt_b, oI1_i, oNeg_i, oList_l, oList_t, oTuple_l, oTuple_t, oBs_l, oSl_l, oSl_t, oIsi_ap, oIsi2_ap, tyD_n, tyD_b, tyD_i, tyD_s, tyD_t, tyD_l, tyD_f, truD_n, truD_b, truD_i, truD_t, truD_l, asB_b, asI_i, asL_l, isL_l, isL_t, isL_i, isL_b, isL_n, itD_l, itD_t, itD_f, fApp_ap, fExt_ap, ex_some, onS_ap, ite_t, ite_f, bodyD_ap, ioD_c, start_ap, isi_int_NoneType, isi_int_bool, isi_int_int, isi_int_str, isi_int_tuple, isi_int_list, isi_int_dict, isi_bool_NoneType, isi_bool_bool, isi_bool_int, isi_bool_str, isi_bool_tuple, isi_bool_list, isi_bool_dict, isi_str_NoneType, isi_str_bool, isi_str_int, isi_str_str, isi_str_tuple, isi_str_list, isi_str_dict, isi_list_NoneType, isi_list_bool, isi_list_int, isi_list_str, isi_list_tuple, isi_list_list, isi_list_dict, isi_tuple_NoneType, isi_tuple_bool, isi_tuple_int, isi_tuple_str, isi_tuple_tuple, isi_tuple_list, isi_tuple_dict, isi_dict_NoneType, isi_dict_bool, isi_dict_int, isi_dict_str, isi_dict_tuple, isi_dict_list, isi_dict_dict, List.map_cons, List.map_nil, List.cons_append, List.nil_append, List.length_cons, List.length_nil, List.replicate_succ, List.replicate_zero, Nat.reduceAdd, Nat.reduceSub, Nat.zero_add, true_and, and_true, Bool.not_true, Bool.not_false, Bool.true_or, Bool.or_true, Bool.false_or, Bool.or_false, if_true, if_false, Bool.false_eq_true, atI_z, itD_tI])
        refine ⟨by rw [List.length_map]; exact small_z (by have := p.n10; omega), lc_fm (fun d => match d with | .int z => if z = 0 then none else some (D.int z) | _ => none) ?_ ?_⟩
        · intro d hd K1 K0 h1 h0
          obtain ⟨z, _, rfl⟩ := List.mem_map.mp hd
          (try simp only [wC_ap, wSetI_ap, wExpr_ap, wRet_ap, wRetN_ap, wRet0_ap, wIf_ap, wFor_ap, wWhile_ap, wBreak_ap, wCont_ap, wNever_ap, wPick_ap, wCallL_ap, wOp_ap, wIxO_ap, wNoPart_ap, wPart_ap, wSl_ap, wUn_ap, wTest_ap, wChain_ap, wTru_ap, wNotT_ap, wAndT_ap, wOrT_ap, wAnd_ap, wOr_ap, wNot_ap, wIfE_ap, wNil_ap, wCons_ap, wTup_ap, wLst_ap, wCall_ap, wCall0_ap, wCallIo_ap, wYes_ap, wGn_ap, wSr_ap, wEn_ap, wZp_ap, wRg1_ap, wRg2_ap, wLc_ap, wMeth_ap, wMeth0_ap, wNext_ap, wSeq_ap, wAsg_ap, wSet_ap, wV_ap, wPar_ap, par2_ap, wGnil_ap, wGcons_ap, wGtup_ap, sl_z, sl_s, set_z, set_s, wipe_z, wipe_s, rest_z, rest_s, oAdd_i, oAdd_t, oAdd_l, oAdd_s, oSub_i, oMul_i, oMul_t, oII_i, oII0_i, oIx_l, oIx_t, oIx_f, oIsN_n, oNotN_n, oLen_l, oLen_t, oLen_f, oInt_i, oInt_b, oI1_i, oNeg_i, oList_l, oList_t, oTuple_l, oTuple_t, oBs_l, oSl_l, oSl_t, oIsi_ap, oIsi2_ap, tyD_n, tyD_b, tyD_i, tyD_s, tyD_t, tyD_l, tyD_f, truD_n, truD_b, truD_i, truD_t, truD_l, asB_b, asI_i, asL_l, isL_l, isL_t, isL_i, isL_b, isL_n, itD_l, itD_t, itD_f, fApp_ap, fExt_ap, ex_some, onS_ap, ite_t, ite_f, bodyD_ap, ioD_c, start_ap, isi_int_NoneType, isi_int_bool, isi_int_int, isi_int_str, isi_int_tuple, isi_int_list, isi_int_dict, isi_bool_NoneType, isi_bool_bool, isi_bool_int, isi_bool_str, isi_bool_tuple, isi_bool_list, isi_bool_dict, isi_str_NoneType, isi_str_bool, isi_str_int, isi_str_str, isi_str_tuple, isi_str_list, isi_str_dict, isi_list_NoneType, isi_list_bool, isi_list_int, isi_list_str, isi_list_tuple, isi_list_list, isi_list_dict, isi_tuple_NoneType, isi_tuple_bool, isi_tuple_int, isi_tuple_str, isi_tuple_tuple, isi_tuple_list, isi_tuple_dict, isi_dict_NoneType, isi_dict_bool, isi_dict_int, isi_dict_str, isi_dict_tuple, isi_dict_list, isi_dict_dict, List.map_cons, List.map_nil, List.cons_append, List.nil_append, List.length_cons, List.length_nil, List.replicate_succ, List.replicate_zero, Nat.reduceAdd, Nat.reduceSub, Nat.zero_add, true_and, and_true, Bool.not_true, Bool.not_false, Bool.true_or, Bool.or_true, Bool.false_or, Bool.or_false, if_true, if_false, Bool.false_eq_true])
          refine ⟨okD_int _ _, okD_int _ _, ?_⟩
          rw [eqD_int]
          by_cases hz : z = 0
          · rw [decide_eq_true hz]
            (try simp only [wC_ap, wSetI_ap, wExpr_ap, wRet_ap, wRetN_ap, wRet0_ap, wIf_ap, wFor_ap, wWhile_ap, wBreak_ap, wCont_ap, wNever_ap, wPick_ap, wCallL_ap, wOp_ap, wIxO_ap, wNoPart_ap, wPart_ap, wSl_ap, wUn_ap, wTest_ap, wChain_ap, wTru_ap, wNotT_ap, wAndT_ap, wOrT_ap, wAnd_ap, wOr_ap, wNot_ap, wIfE_ap, wNil_ap, wCons_ap, wTup_ap, wLst_ap, wCall_ap, wCall0_ap, wCallIo_ap, wYes_ap, wGn_ap, wSr_ap, wEn_ap, wZp_ap, wRg1_ap, wRg2_ap, wLc_ap, wMeth_ap, wMeth0_ap, wNext_ap, wSeq_ap, wAsg_ap, wSet_ap, wV_ap, wPar_ap, par2_ap, wGnil_ap, wGcons_ap, wGtup_ap, sl_z, sl_s, set_z, set_s, wipe_z, wipe_s, rest_z, rest_s, oAdd_i, oAdd_t, oAdd_l, oAdd_s, oSub_i, oMul_i, oMul_t, oII_i, oII0_i, oIx_l, oIx_t, oIx_f, oIsN_n, oNotN_n, oLen_l, oLen_t, oLen_f, oInt_i, oInt_b, oI1_i, oNeg_i, oList_l, oList_t, oTuple_l, oTuple_t, oBs_l, oSl_l, oSl_t, oIsi_ap, oIsi2_ap, tyD_n, tyD_b, tyD_i, tyD_s, tyD_t, tyD_l, tyD_f, truD_n, truD_b, truD_i, truD_t, truD_l, asB_b, asI_i, asL_l, isL_l, isL_t, isL_i, isL_b, isL_n, itD_l, itD_t, itD_f, fApp_ap, fExt_ap, ex_some, onS_ap, ite_t, ite_f, bodyD_ap, ioD_c, start_ap, isi_int_NoneType, isi_int_bool, isi_int_int, isi_int_str, isi_int_tuple, isi_int_list, isi_int_dict, isi_bool_NoneType, isi_bool_bool, isi_bool_int, isi_bool_str, isi_bool_tuple, isi_bool_list, isi_bool_dict, isi_str_NoneType, isi_str_bool, isi_str_int, isi_str_str, isi_str_tuple, isi_str_list, isi_str_dict, isi_list_NoneType, isi_list_bool, isi_list_int, isi_list_str, isi_list_tuple, isi_list_list, isi_list_dict, isi_tuple_NoneType, isi_tuple_bool, isi_tuple_int, isi_tuple_str, isi_tuple_tuple, isi_tuple_list, isi_tuple_dict, isi_dict_NoneType, isi_dict_bool, isi_dict_int, isi_dict_str, isi_dict_tuple, isi_dict_list, isi_dict_dict, List.map_cons, List.map_nil, List.cons_append, List.nil_append, List.length_cons, List.length_nil, List.replicate_succ, List.replicate_zero, Nat.reduceAdd, Nat.reduceSub, Nat.zero_add, true_and, and_true, Bool.not_true, Bool.not_false, Bool.true_or, Bool.or_true, Bool.false_or, Bool.or_false, if_true, if_false, Bool.false_eq_true])
            exact h0 _ (by simp [hz]) rfl
          · rw [decide_eq_false hz]
            (try simp only [wC_ap, wSetI_ap, wExpr_ap, wRet_ap, wRetN_ap, wRet0_ap, wIf_ap, wFor_ap, wWhile_ap, wBreak_ap, wCont_ap, wNever_ap, wPick_ap, wCallL_ap, wOp_ap, wIxO_ap, wNoPart_ap, wPart_ap, wSl_ap, wUn_ap, wTest_ap, wChain_ap, wTru_ap, wNotT_ap, wAndT_ap, wOrT_ap, wAnd_ap, wOr_ap, wNot_ap, wIfE_ap, wNil_ap, wCons_ap, wTup_ap, wLst_ap, wCall_ap, wCall0_ap, wCallIo_ap, wYes_ap, wGn_ap, wSr_ap, wEn_ap, wZp_ap, wRg1_ap, wRg2_ap, wLc_ap, wMeth_ap, wMeth0_ap, wNext_ap, wSeq_ap, wAsg_ap, wSet_ap, wV_ap, wPar_ap, par2_ap, wGnil_ap, wGcons_ap, wGtup_ap, sl_z, sl_s, set_z, set_s, wipe_z, wipe_s, rest_z, rest_s, oAdd_i, oAdd_t, oAdd_l, oAdd_s, oSub_i, oMul_i, oMul_t, oII_i, oII0_i, oIx_l, oIx_t, oIx_f, oIsN_n, oNotN_n, oLen_l, oLen_t, oLen_f, oInt_i, oInt_b, oI1_i, oNeg_i, oList_l, oList_t, oTuple_l, oTuple_t, oBs_l, oSl_l, oSl_t, oIsi_ap, oIsi2_ap, tyD_n, tyD_b, tyD_i, tyD_s, tyD_t, tyD_l, tyD_f, truD_n, truD_b, truD_i, truD_t, truD_l, asB_b, asI_i, asL_l, isL_l, isL_t, isL_i, isL_b, isL_n, itD_l, itD_t, itD_f, fApp_ap, fExt_ap, ex_some, onS_ap, ite_t, ite_f, bodyD_ap, ioD_c, start_ap, isi_int_NoneType, isi_int_bool, isi_int_int, isi_int_str, isi_int_tuple, isi_int_list, isi_int_dict, isi_bool_NoneType, isi_bool_bool, isi_bool_int, isi_bool_str, isi_bool_tuple, isi_bool_list, isi_bool_dict, isi_str_NoneType, isi_str_bool, isi_str_int, isi_str_str, isi_str_tuple, isi_str_list, isi_str_dict, isi_list_NoneType, isi_list_bool, isi_list_int, isi_list_str, isi_list_tuple, isi_list_list, isi_list_dict, isi_tuple_NoneType, isi_tuple_bool, isi_tuple_int, isi_tuple_str, isi_tuple_tuple, isi_tuple_list, isi_tuple_dict, isi_dict_NoneType, isi_dict_bool, isi_dict_int, isi_dict_str, isi_dict_tuple, isi_dict_list, isi_dict_dict, List.map_cons, List.map_nil, List.cons_append, List.nil_append, List.length_cons, List.length_nil, List.replicate_succ, List.replicate_zero, Nat.reduceAdd, Nat.reduceSub, Nat.zero_add, true_and, and_true, Bool.not_true, Bool.not_false, Bool.true_or, Bool.or_true, Bool.false_or, Bool.or_false, if_true, if_false, Bool.false_eq_true])
            exact h1 _ _ (by simp [hz]) rfl
        · (try simp only [wC_ap, wSetI_ap, wExpr_ap, wRet_ap, wRetN_ap, wRet0_ap, wIf_ap, wFor_ap, wWhile_ap, wBreak_ap, wCont_ap, wNever_ap, wPick_ap, wCallL_ap, wOp_ap, wIxO_ap, wNoPart_ap, wPart_ap, wSl_ap, wUn_ap, wTest_ap, wChain_ap, wTru_ap, wNotT_ap, wAndT_ap, wOrT_ap, wAnd_ap, wOr_ap, wNot_ap, wIfE_ap, wNil_ap, wCons_ap, wTup_ap, wLst_ap, wCall_ap, wCall0_ap, wCallIo_ap, wYes_ap, wGn_ap, wSr_ap, wEn_ap, wZp_ap, wRg1_ap, wRg2_ap, wLc_ap, wMeth_ap, wMeth0_ap, wNext_ap, wSeq_ap, wAsg_ap, wSet_ap, wV_ap, wPar_ap, par2_ap, wGnil_ap, wGcons_ap, wGtup_ap, sl_z, sl_s, set_z, set_s, wipe_z, wipe_s, rest_z, rest_s, oAdd_i, oAdd_t, oAdd_l, oAdd_s, oSub_i, oMul_i, oMul_t, oII_i, oII0_i, oIx_l, oIx_t, oIx_f, oIsN_n, oNotN_n, oLen_l, oLen_t, oLen_f, oInt_i, oInt_b, oI1_i, oNeg_i, oList_l, oList_t, oTuple_l, oTuple_t, oBs_l, oSl_l, oSl_t, oIsi_ap, oIsi2_ap, tyD_n, tyD_b, tyD_i, tyD_s, tyD_t, tyD_l, tyD_f, truD_n, truD_b, truD_i, truD_t, truD_l, asB_b, asI_i, asL_l, isL_l, isL_t, isL_i, isL_b, isL_n, itD_l, itD_t, itD_f, fApp_ap, fExt_ap, ex_some, onS_ap, ite_t, ite_f, bodyD_ap, ioD_c, start_ap, isi_int_NoneType, isi_int_bool, isi_int_int, isi_int_str, isi_int_tuple, isi_int_list, isi_int_dict, isi_bool_NoneType, isi_bool_bool, isi_bool_int, isi_bool_str, isi_bool_tuple, isi_bool_list, isi_bool_dict, isi_str_NoneType, isi_str_bool, isi_str_int, isi_str_str, isi_str_tuple, isi_str_list, isi_str_dict, isi_list_NoneType, isi_list_bool, isi_list_int, isi_list_str, isi_list_tuple, isi_list_list, isi_list_dict, isi_tuple_NoneType, isi_tuple_bool, isi_tuple_int, isi_tuple_str, isi_tuple_tuple, isi_tuple_list, isi_tuple_dict, isi_dict_NoneType, isi_dict_bool, isi_dict_int, isi_dict_str, isi_dict_tuple, isi_dict_list, isi_dict_dict, List.map_cons, List.map_nil, List.cons_append, List.nil_append, List.length_cons, List.length_nil, List.replicate_succ, List.replicate_zero, Nat.reduceAdd, Nat.reduceSub, Nat.zero_add, true_and, and_true, Bool.not_true, Bool.not_false, Bool.true_or, Bool.or_true, Bool.false_or, Bool.or_false, if_true, if_false, Bool.false_eq_true])
          refine ⟨small_z (by decide), ?_, by decide, ?_⟩
          · show okL 59 _ = true
            refine okL_all fun d hd => ?_
            obtain ⟨e, he, hf⟩ := List.mem_filterMap.mp hd
            obtain ⟨z, _, rfl⟩ := List.mem_map.mp he
            by_cases hz : z = 0
            · simp [hz] at hf
            · simp [hz] at hf
              rw [← hf]; exact okD_int _ _
          · rw [eqD_nil, nz_list]
            cases hz : isZ t with
            | true =>
              (try simp only [wC_ap, wSetI_ap, wExpr_ap, wRet_ap, wRetN_ap, wRet0_ap, wIf_ap, wFor_ap, wWhile_ap, wBreak_ap, wCont_ap, wNever_ap, wPick_ap, wCallL_ap, wOp_ap, wIxO_ap, wNoPart_ap, wPart_ap, wSl_ap, wUn_ap, wTest_ap, wChain_ap, wTru_ap, wNotT_ap, wAndT_ap, wOrT_ap, wAnd_ap, wOr_ap, wNot_ap, wIfE_ap, wNil_ap, wCons_ap, wTup_ap, wLst_ap, wCall_ap, wCall0_ap, wCallIo_ap, wYes_ap, wGn_ap, wSr_ap, wEn_ap, wZp_ap, wRg1_ap, wRg2_ap, wLc_ap, wMeth_ap, wMeth0_ap, wNext_ap, wSeq_ap, wAsg_ap, wSet_ap, wV_ap, wPar_ap, par2_ap, wGnil_ap, wGcons_ap, wGtup_ap, sl_z, sl_s, set_z, set_s, wipe_z, wipe_s, rest_z, rest_s, oAdd_i, oAdd_t, oAdd_l, oAdd_s, oSub_i, oMul_i, oMul_t, oII_i, oII0_i, oIx_l, oIx_t, oIx_f, oIsN_n, oNotN_n, oLen_l, oLen_t, oLen_f, oInt_i, oInt_b, oI1_i, oNeg_i, oList_l, oList_t, oTuple_l, oTuple_t, oBs_l, oSl_l, oSl_t, oIsi_ap, oIsi2_ap, tyD_n, tyD_b, tyD_i, tyD_s, tyD_t, tyD_l, tyD_f, truD_n, truD_b, truD_i, truD_t, truD_l, asB_b, asI_i, asL_l, isL_l, isL_t, isL_i, isL_b, isL_n, itD_l, itD_t, itD_f, fApp_ap, fExt_ap, ex_some, onS_ap, ite_t, ite_f, bodyD_ap, ioD_c, start_ap, isi_int_NoneType, isi_int_bool, isi_int_int, isi_int_str, isi_int_tuple, isi_int_list, isi_int_dict, isi_bool_NoneType, isi_bool_bool, isi_bool_int, isi_bool_str, isi_bool_tuple, isi_bool_list, isi_bool_dict, isi_str_NoneType, isi_str_bool, isi_str_int, isi_str_str, isi_str_tuple, isi_str_list, isi_str_dict, isi_list_NoneType, isi_list_bool, isi_list_int, isi_list_str, isi_list_tuple, isi_list_list, isi_list_dict, isi_tuple_NoneType, isi_tuple_bool, isi_tuple_int, isi_tuple_str, isi_tuple_tuple, isi_tuple_list, isi_tuple_dict, isi_dict_NoneType, isi_dict_bool, isi_dict_int, isi_dict_str, isi_dict_tuple, isi_dict_list, isi_dict_dict, List.map_cons, List.map_nil, List.cons_append, List.nil_append, List.length_cons, List.length_nil, List.replicate_succ, List.replicate_zero, Nat.reduceAdd, Nat.reduceSub, Nat.zero_add, true_and, and_true, Bool.not_true, Bool.not_false, Bool.true_or, Bool.or_true, Bool.false_or, Bool.or_false, if_true, if_false, Bool.false_eq_true])
              exact h0 _ (by simp [rowD, intsD_tI, hz]) rfl
            | false =>
              (try simp only [wC_ap, wSetI_ap, wExpr_ap, wRet_ap, wRetN_ap, wRet0_ap, wIf_ap, wFor_ap, wWhile_ap, wBreak_ap, wCont_ap, wNever_ap, wPick_ap, wCallL_ap, wOp_ap, wIxO_ap, wNoPart_ap, wPart_ap, wSl_ap, wUn_ap, wTest_ap, wChain_ap, wTru_ap, wNotT_ap, wAndT_ap, wOrT_ap, wAnd_ap, wOr_ap, wNot_ap, wIfE_ap, wNil_ap, wCons_ap, wTup_ap, wLst_ap, wCall_ap, wCall0_ap, wCallIo_ap, wYes_ap, wGn_ap, wSr_ap, wEn_ap, wZp_ap, wRg1_ap, wRg2_ap, wLc_ap, wMeth_ap, wMeth0_ap, wNext_ap, wSeq_ap, wAsg_ap, wSet_ap, wV_ap, wPar_ap, par2_ap, wGnil_ap, wGcons_ap, wGtup_ap, sl_z, sl_s, set_z, set_s, wipe_z, wipe_s, rest_z, rest_s, oAdd_i, oAdd_t, oAdd_l, oAdd_s, oSub_i, oMul_i, oMul_t, oII_i, oII0_i, oIx_l, oIx_t, oIx_f, oIsN_n, oNotN_n, oLen_l, oLen_t, oLen_f, oInt_i, oInt_b, oI1_i, oNeg_i, oList_l, oList_t, oTuple_l, oTuple_t, oBs_l, oSl_l, oSl_t, oIsi_ap, oIsi2_ap, tyD_n, tyD_b, tyD_i, tyD_s, tyD_t, tyD_l, tyD_f, truD_n, truD_b, truD_i, truD_t, truD_l, asB_b, asI_i, asL_l, isL_l, isL_t, isL_i, isL_b, isL_n, itD_l, itD_t, itD_f, fApp_ap, fExt_ap, ex_some, onS_ap, ite_t, ite_f, bodyD_ap, ioD_c, start_ap, isi_int_NoneType, isi_int_bool, isi_int_int, isi_int_str, isi_int_tuple, isi_int_list, isi_int_dict, isi_bool_NoneType, isi_bool_bool, isi_bool_int, isi_bool_str, isi_bool_tuple, isi_bool_list, isi_bool_dict, isi_str_NoneType, isi_str_bool, isi_str_int, isi_str_str, isi_str_tuple, isi_str_list, isi_str_dict, isi_list_NoneType, isi_list_bool, isi_list_int, isi_list_str, isi_list_tuple, isi_list_list, isi_list_dict, isi_tuple_NoneType, isi_tuple_bool, isi_tuple_int, isi_tuple_str, isi_tuple_tuple, isi_tuple_list, isi_tuple_dict, isi_dict_NoneType, isi_dict_bool, isi_dict_int, isi_dict_str, isi_dict_tuple, isi_dict_list, isi_dict_dict, List.map_cons, List.map_nil, List.cons_append, List.nil_append, List.length_cons, List.length_nil, List.replicate_succ, List.replicate_zero, Nat.reduceAdd, Nat.reduceSub, Nat.zero_add, true_and, and_true, Bool.not_true, Bool.not_false, Bool.true_or, Bool.or_true, Bool.false_or, Bool.or_false, if_true, if_false, Bool.false_eq_true])
              exact h1 _ _ (by simp [rowD, intsD_tI, hz]) rfl
      · have hF : ((oldRows at_ 0 ss ++ (pairsOf ss at_).map (pairRow ss at_)).map rowD).filterMap (fun d => match d with | .tup [t, _] => if isZ (intsD t) = true then none else some d | _ => none) = (rowsOf ss at_).map rowD := by
          unfold rowsOf
          generalize (oldRows at_ 0 ss ++ (pairsOf ss at_).map (pairRow ss at_)) = xs
          induction xs with
          | nil => rfl
          | cons x xs ih =>
            rw [List.map_cons, List.filterMap_cons, ih, List.filter_cons]
            unfold rowD
            simp only [intsD_tI]
            cases isZ x.1 <;> simp
        rw [hF]
        (try simp only [wC_ap, wSetI_ap, wExpr_ap, wRet_ap, wRetN_ap, wRet0_ap, wIf_ap, wFor_ap, wWhile_ap, wBreak_ap, wCont_ap, wNever_ap, wPick_ap, wCallL_ap, wOp_ap, wIxO_ap, wNoPart_ap, wPart_ap, wSl_ap, wUn_ap, wTest_ap, wChain_ap, wTru_ap, wNotT_ap, wAndT_ap, wOrT_ap, wAnd_ap, wOr_ap, wNot_ap, wIfE_ap, wNil_ap, wCons_ap, wTup_ap, wLst_ap, wCall_ap, wCall0_ap, wCallIo_ap, wYes_ap, wGn_ap, wSr_ap, wEn_ap, wZp_ap, wRg1_ap, wRg2_ap, wLc_ap, wMeth_ap, wMeth0_ap, wNext_ap, wSeq_ap, wAsg_ap, wSet_ap, wV_ap, wPar_ap, par2_ap, wGnil_ap, wGcons_ap, wGtup_ap, sl_z, sl_s, set_z, set_s, wipe_z, wipe_s, rest_z, rest_s, oAdd_i, oAdd_t, oAdd_l, oAdd_s, oSub_i, oMul_i, oMul_t, oII_i, oII0_i, oIx_l, oIx_t, oIx_f, oIsN_n, oNotN_n, oLen_l, oLen_t, oLen_f, oInt_i, oInt_b, oI1_i, oNeg_i, oList_l, oList_t, oTuple_l, oTuple_t, oBs_l, oSl_l, oSl_t, oIsi_ap, oIsi2_ap, tyD_n, tyD_b, tyD_i, tyD_s, tyD_t, tyD_l, tyD_f, truD_n, truD_b, truD_i, truD_t, truD_l, asB_b, asI_i, asL_l, isL_l, isL_t, isL_i, isL_b, isL_n, itD_l, itD_t, itD_f, fApp_ap, fExt_ap, ex_some, onS_ap, ite_t, ite_f, bodyD_ap, ioD_c, start_ap, isi_int_NoneType, isi_int_bool, isi_int_int, isi_int_str, isi_int_tuple, isi_int_list, isi_int_dict, isi_bool_NoneType, isi_bool_bool, isi_bool_int, isi_bool_str, isi_bool_tuple, isi_bool_list, isi_bool_dict, isi_str_NoneType, isi_str_bool, isi_str_int, isi_str_str, isi_str_tuple, isi_str_list, isi_str_dict, isi_list_NoneType, isi_list_bool, isi_list_int, isi_list_str, isi_list_tuple, isi_list_list, isi_list_dict, isi_tuple_NoneType, isi_tuple_bool, isi_tuple_int, isi_tuple_str, isi_tuple_tuple, isi_tuple_list, isi_tuple_dict, isi_dict_NoneType, isi_dict_bool, isi_dict_int, isi_dict_str, isi_dict_tuple, isi_dict_list, isi_dict_dict, List.map_cons, List.map_nil, List.cons_append, List.nil_append, List.length_cons, List.length_nil, List.replicate_succ, List.replicate_zero, Nat.reduceAdd, Nat.reduceSub, Nat.zero_add, true_and, and_true, Bool.not_true, Bool.not_false, Bool.true_or, Bool.or_true, Bool.false_or, Bool.or_false, if_true, if_false, Bool.false_eq_true])
        exact ⟨small_z (by decide), q _ _ ⟨ps, rfl⟩⟩
theorem kept_eq (ps : List Int) : ∀ ss : List (List Int), ((ss.map tI).filterMap fun d => if 0 < worthR (intsD d) ps then some d else none).isEmpty = keptB ss ps
  | [] => rfl
  | s :: r => by
    have ih := kept_eq ps r
    unfold keptB at ih ⊢
    rw [List.map_cons, List.filterMap_cons, List.all_cons, intsD_tI]
    by_cases h : 0 < worthR s ps
    · rw [if_pos h, decide_eq_false (by omega)]; rfl
    · rw [if_neg h, decide_eq_true (by omega), Bool.true_and]; exact ih
theorem h_law_kept : ∀ ds EF PF, f_law_kept ds EF PF → ds.length = 2 ∧ bodyD 3 b_law_kept ds EF PF := by
  rintro ds EF PF ⟨⟨ss, ps⟩, rfl, ⟨p1, p2, p3⟩, q⟩
  refine ⟨rfl, ?_⟩
  unfold b_law_kept
  (try simp only [wC_ap, wSetI_ap, wExpr_ap, wRet_ap, wRetN_ap, wRet0_ap, wIf_ap, wFor_ap, wWhile_ap, wBreak_ap, wCont_ap, wNever_ap, wPick_ap, wCallL_ap, wOp_ap, wIxO_ap, wNoPart_ap, wPart_ap, wSl_ap, wUn_ap, wTest_ap, wChain_ap, wTru_ap, wNotT_ap, wAndT_ap, wOrT_ap, wAnd_ap, wOr_ap, wNot_ap, wIfE_ap, wNil_ap, wCons_ap, wTup_ap, wLst_ap, wCall_ap, wCall0_ap, wCallIo_ap, wYes_ap, wGn_ap, wSr_ap, wEn_ap, wZp_ap, wRg1_ap, wRg2_ap, wLc_ap, wMeth_ap, wMeth0_ap, wNext_ap, wSeq_ap, wAsg_ap, wSet_ap, wV_ap, wPar_ap, par2_ap, wGnil_ap, wGcons_ap, wGtup_ap, sl_z, sl_s, set_z, set_s, wipe_z, wipe_s, rest_z, rest_s, oAdd_i, oAdd_t, oAdd_l, oAdd_s, oSub_i, oMul_i, oMul_t, oII_i, oII0_i, oIx_l, oIx_t, oIx_f, oIsN_n, oNotN_n, oLen_l, oLen_t, oLen_f, oInt_i, oInt_b, oI1_i, oNeg_i, oList_l, oList_t, oTuple_l, oTuple_t, oBs_l, oSl_l, oSl_t, oIsi_ap, oIsi2_ap, tyD_n, tyD_b, tyD_i, tyD_s, tyD_t, tyD_l, tyD_f, truD_n, truD_b, truD_i, truD_t, truD_l, asB_b, asI_i, asL_l, isL_l, isL_t, isL_i, isL_b, isL_n, itD_l, itD_t, itD_f, fApp_ap, fExt_ap, ex_some, onS_ap, ite_t, ite_f, bodyD_ap, ioD_c, start_ap, isi_int_NoneType, isi_int_bool, isi_int_int, isi_int_str, isi_int_tuple, isi_int_list, isi_int_dict, isi_bool_NoneType, isi_bool_bool, isi_bool_int, isi_bool_str, isi_bool_tuple, isi_bool_list, isi_bool_dict, isi_str_NoneType, isi_str_bool, isi_str_int, isi_str_str, isi_str_tuple, isi_str_list, isi_str_dict, isi_list_NoneType, isi_list_bool, isi_list_int, isi_list_str, isi_list_tuple, isi_list_list, isi_list_dict, isi_tuple_NoneType, isi_tuple_bool, isi_tuple_int, isi_tuple_str, isi_tuple_tuple, isi_tuple_list, isi_tuple_dict, isi_dict_NoneType, isi_dict_bool, isi_dict_int, isi_dict_str, isi_dict_tuple, isi_dict_list, isi_dict_dict, List.map_cons, List.map_nil, List.cons_append, List.nil_append, List.length_cons, List.length_nil, List.replicate_succ, List.replicate_zero, Nat.reduceAdd, Nat.reduceSub, Nat.zero_add, true_and, and_true, Bool.not_true, Bool.not_false, Bool.true_or, Bool.or_true, Bool.false_or, Bool.or_false, if_true, if_false, Bool.false_eq_true])
  refine ⟨by rw [List.length_map]; exact small_z (Nat.le_trans p1 (by decide)), lc_fm (fun d => if 0 < worthR (intsD d) ps then some d else none) ?_ ?_⟩
  · intro d hd K1 K0 h1 h0
    obtain ⟨s, hs, rfl⟩ := List.mem_map.mp hd
    obtain ⟨q1, q2⟩ := p3 s hs
    have q1 : s.length = ps.length + 1 := q1
    have p2 : ps.length ≤ 100 := p2
    have ne : s ≠ [] := fun e => by rw [e] at q1; cases q1
    (try simp only [wC_ap, wSetI_ap, wExpr_ap, wRet_ap, wRetN_ap, wRet0_ap, wIf_ap, wFor_ap, wWhile_ap, wBreak_ap, wCont_ap, wNever_ap, wPick_ap, wCallL_ap, wOp_ap, wIxO_ap, wNoPart_ap, wPart_ap, wSl_ap, wUn_ap, wTest_ap, wChain_ap, wTru_ap, wNotT_ap, wAndT_ap, wOrT_ap, wAnd_ap, wOr_ap, wNot_ap, wIfE_ap, wNil_ap, wCons_ap, wTup_ap, wLst_ap, wCall_ap, wCall0_ap, wCallIo_ap, wYes_ap, wGn_ap, wSr_ap, wEn_ap, wZp_ap, wRg1_ap, wRg2_ap, wLc_ap, wMeth_ap, wMeth0_ap, wNext_ap, wSeq_ap, wAsg_ap, wSet_ap, wV_ap, wPar_ap, par2_ap, wGnil_ap, wGcons_ap, wGtup_ap, sl_z, sl_s, set_z, set_s, wipe_z, wipe_s, rest_z, rest_s, oAdd_i, oAdd_t, oAdd_l, oAdd_s, oSub_i, oMul_i, oMul_t, oII_i, oII0_i, oIx_l, oIx_t, oIx_f, oIsN_n, oNotN_n, oLen_l, oLen_t, oLen_f, oInt_i, oInt_b, oI1_i, oNeg_i, oList_l, oList_t, oTuple_l, oTuple_t, oBs_l, oSl_l, oSl_t, oIsi_ap, oIsi2_ap, tyD_n, tyD_b, tyD_i, tyD_s, tyD_t, tyD_l, tyD_f, truD_n, truD_b, truD_i, truD_t, truD_l, asB_b, asI_i, asL_l, isL_l, isL_t, isL_i, isL_b, isL_n, itD_l, itD_t, itD_f, fApp_ap, fExt_ap, ex_some, onS_ap, ite_t, ite_f, bodyD_ap, ioD_c, start_ap, isi_int_NoneType, isi_int_bool, isi_int_int, isi_int_str, isi_int_tuple, isi_int_list, isi_int_dict, isi_bool_NoneType, isi_bool_bool, isi_bool_int, isi_bool_str, isi_bool_tuple, isi_bool_list, isi_bool_dict, isi_str_NoneType, isi_str_bool, isi_str_int, isi_str_str, isi_str_tuple, isi_str_list, isi_str_dict, isi_list_NoneType, isi_list_bool, isi_list_int, isi_list_str, isi_list_tuple, isi_list_list, isi_list_dict, isi_tuple_NoneType, isi_tuple_bool, isi_tuple_int, isi_tuple_str, isi_tuple_tuple, isi_tuple_list, isi_tuple_dict, isi_dict_NoneType, isi_dict_bool, isi_dict_int, isi_dict_str, isi_dict_tuple, isi_dict_list, isi_dict_dict, List.map_cons, List.map_nil, List.cons_append, List.nil_append, List.length_cons, List.length_nil, List.replicate_succ, List.replicate_zero, Nat.reduceAdd, Nat.reduceSub, Nat.zero_add, true_and, and_true, Bool.not_true, Bool.not_false, Bool.true_or, Bool.or_true, Bool.false_or, Bool.or_false, if_true, if_false, Bool.false_eq_true])
    refine ⟨(s.dropLast, s.getLastD 0, ps), ?_, ⟨?_, ?_, fun z hz => q2 z hz⟩, ?_⟩
    · show [tI s, tI ps] = [tI (s.dropLast ++ [s.getLastD 0]), tI ps]
      rw [split_last ne]
    · show s.dropLast.length = ps.length
      rw [List.length_dropLast, q1]; omega
    · show s.dropLast.length ≤ 100
      rw [List.length_dropLast, q1]; omega
    rintro r c' rfl
    show oGt (.int (worthR s ps)) (.int 0) _
    (try simp only [wC_ap, wSetI_ap, wExpr_ap, wRet_ap, wRetN_ap, wRet0_ap, wIf_ap, wFor_ap, wWhile_ap, wBreak_ap, wCont_ap, wNever_ap, wPick_ap, wCallL_ap, wOp_ap, wIxO_ap, wNoPart_ap, wPart_ap, wSl_ap, wUn_ap, wTest_ap, wChain_ap, wTru_ap, wNotT_ap, wAndT_ap, wOrT_ap, wAnd_ap, wOr_ap, wNot_ap, wIfE_ap, wNil_ap, wCons_ap, wTup_ap, wLst_ap, wCall_ap, wCall0_ap, wCallIo_ap, wYes_ap, wGn_ap, wSr_ap, wEn_ap, wZp_ap, wRg1_ap, wRg2_ap, wLc_ap, wMeth_ap, wMeth0_ap, wNext_ap, wSeq_ap, wAsg_ap, wSet_ap, wV_ap, wPar_ap, par2_ap, wGnil_ap, wGcons_ap, wGtup_ap, sl_z, sl_s, set_z, set_s, wipe_z, wipe_s, rest_z, rest_s, oAdd_i, oAdd_t, oAdd_l, oAdd_s, oSub_i, oMul_i, oMul_t, oII_i, oII0_i, oIx_l, oIx_t, oIx_f, oIsN_n, oNotN_n, oLen_l, oLen_t, oLen_f, oInt_i, oInt_b, oI1_i, oNeg_i, oList_l, oList_t, oTuple_l, oTuple_t, oBs_l, oSl_l, oSl_t, oIsi_ap, oIsi2_ap, tyD_n, tyD_b, tyD_i, tyD_s, tyD_t, tyD_l, tyD_f, truD_n, truD_b, truD_i, truD_t, truD_l, asB_b, asI_i, asL_l, isL_l, isL_t, isL_i, isL_b, isL_n, itD_l, itD_t, itD_f, fApp_ap, fExt_ap, ex_some, onS_ap, ite_t, ite_f, bodyD_ap, ioD_c, start_ap, isi_int_NoneType, isi_int_bool, isi_int_int, isi_int_str, isi_int_tuple, isi_int_list, isi_int_dict, isi_bool_NoneType, isi_bool_bool, isi_bool_int, isi_bool_str, isi_bool_tuple, isi_bool_list, isi_bool_dict, isi_str_NoneType, isi_str_bool, isi_str_int, isi_str_str, isi_str_tuple, isi_str_list, isi_str_dict, isi_list_NoneType, isi_list_bool, isi_list_int, isi_list_str, isi_list_tuple, isi_list_list, isi_list_dict, isi_tuple_NoneType, isi_tuple_bool, isi_tuple_int, isi_tuple_str, isi_tuple_tuple, isi_tuple_list, isi_tuple_dict, isi_dict_NoneType, isi_dict_bool, isi_dict_int, isi_dict_str, isi_dict_tuple, isi_dict_list, isi_dict_dict, List.map_cons, List.map_nil, List.cons_append, List.nil_append, List.length_cons, List.length_nil, List.replicate_succ, List.replicate_zero, Nat.reduceAdd, Nat.reduceSub, Nat.zero_add, true_and, and_true, Bool.not_true, Bool.not_false, Bool.true_or, Bool.or_true, Bool.false_or, Bool.or_false, if_true, if_false, Bool.false_eq_true])
    by_cases h : 0 < worthR s ps
    · rw [decide_eq_true h]
      (try simp only [wC_ap, wSetI_ap, wExpr_ap, wRet_ap, wRetN_ap, wRet0_ap, wIf_ap, wFor_ap, wWhile_ap, wBreak_ap, wCont_ap, wNever_ap, wPick_ap, wCallL_ap, wOp_ap, wIxO_ap, wNoPart_ap, wPart_ap, wSl_ap, wUn_ap, wTest_ap, wChain_ap, wTru_ap, wNotT_ap, wAndT_ap, wOrT_ap, wAnd_ap, wOr_ap, wNot_ap, wIfE_ap, wNil_ap, wCons_ap, wTup_ap, wLst_ap, wCall_ap, wCall0_ap, wCallIo_ap, wYes_ap, wGn_ap, wSr_ap, wEn_ap, wZp_ap, wRg1_ap, wRg2_ap, wLc_ap, wMeth_ap, wMeth0_ap, wNext_ap, wSeq_ap, wAsg_ap, wSet_ap, wV_ap, wPar_ap, par2_ap, wGnil_ap, wGcons_ap, wGtup_ap, sl_z, sl_s, set_z, set_s, wipe_z, wipe_s, rest_z, rest_s, oAdd_i, oAdd_t, oAdd_l, oAdd_s, oSub_i, oMul_i, oMul_t, oII_i, oII0_i, oIx_l, oIx_t, oIx_f, oIsN_n, oNotN_n, oLen_l, oLen_t, oLen_f, oInt_i, oInt_b, oI1_i, oNeg_i, oList_l, oList_t, oTuple_l, oTuple_t, oBs_l, oSl_l, oSl_t, oIsi_ap, oIsi2_ap, tyD_n, tyD_b, tyD_i, tyD_s, tyD_t, tyD_l, tyD_f, truD_n, truD_b, truD_i, truD_t, truD_l, asB_b, asI_i, asL_l, isL_l, isL_t, isL_i, isL_b, isL_n, itD_l, itD_t, itD_f, fApp_ap, fExt_ap, ex_some, onS_ap, ite_t, ite_f, bodyD_ap, ioD_c, start_ap, isi_int_NoneType, isi_int_bool, isi_int_int, isi_int_str, isi_int_tuple, isi_int_list, isi_int_dict, isi_bool_NoneType, isi_bool_bool, isi_bool_int, isi_bool_str, isi_bool_tuple, isi_bool_list, isi_bool_dict, isi_str_NoneType, isi_str_bool, isi_str_int, isi_str_str, isi_str_tuple, isi_str_list, isi_str_dict, isi_list_NoneType, isi_list_bool, isi_list_int, isi_list_str, isi_list_tuple, isi_list_list, isi_list_dict, isi_tuple_NoneType, isi_tuple_bool, isi_tuple_int, isi_tuple_str, isi_tuple_tuple, isi_tuple_list, isi_tuple_dict, isi_dict_NoneType, isi_dict_bool, isi_dict_int, isi_dict_str, isi_dict_tuple, isi_dict_list, isi_dict_dict, List.map_cons, List.map_nil, List.cons_append, List.nil_append, List.length_cons, List.length_nil, List.replicate_succ, List.replicate_zero, Nat.reduceAdd, Nat.reduceSub, Nat.zero_add, true_and, and_true, Bool.not_true, Bool.not_false, Bool.true_or, Bool.or_true, Bool.false_or, Bool.or_false, if_true, if_false, Bool.false_eq_true])
      exact h1 _ _ (by simp [intsD_tI, h]) rfl
    · rw [decide_eq_false h]
      (try simp only [wC_ap, wSetI_ap, wExpr_ap, wRet_ap, wRetN_ap, wRet0_ap, wIf_ap, wFor_ap, wWhile_ap, wBreak_ap, wCont_ap, wNever_ap, wPick_ap, wCallL_ap, wOp_ap, wIxO_ap, wNoPart_ap, wPart_ap, wSl_ap, wUn_ap, wTest_ap, wChain_ap, wTru_ap, wNotT_ap, wAndT_ap, wOrT_ap, wAnd_ap, wOr_ap, wNot_ap, wIfE_ap, wNil_ap, wCons_ap, wTup_ap, wLst_ap, wCall_ap, wCall0_ap, wCallIo_ap, wYes_ap, wGn_ap, wSr_ap, wEn_ap, wZp_ap, wRg1_ap, wRg2_ap, wLc_ap, wMeth_ap, wMeth0_ap, wNext_ap, wSeq_ap, wAsg_ap, wSet_ap, wV_ap, wPar_ap, par2_ap, wGnil_ap, wGcons_ap, wGtup_ap, sl_z, sl_s, set_z, set_s, wipe_z, wipe_s, rest_z, rest_s, oAdd_i, oAdd_t, oAdd_l, oAdd_s, oSub_i, oMul_i, oMul_t, oII_i, oII0_i, oIx_l, oIx_t, oIx_f, oIsN_n, oNotN_n, oLen_l, oLen_t, oLen_f, oInt_i, oInt_b, oI1_i, oNeg_i, oList_l, oList_t, oTuple_l, oTuple_t, oBs_l, oSl_l, oSl_t, oIsi_ap, oIsi2_ap, tyD_n, tyD_b, tyD_i, tyD_s, tyD_t, tyD_l, tyD_f, truD_n, truD_b, truD_i, truD_t, truD_l, asB_b, asI_i, asL_l, isL_l, isL_t, isL_i, isL_b, isL_n, itD_l, itD_t, itD_f, fApp_ap, fExt_ap, ex_some, onS_ap, ite_t, ite_f, bodyD_ap, ioD_c, start_ap, isi_int_NoneType, isi_int_bool, isi_int_int, isi_int_str, isi_int_tuple, isi_int_list, isi_int_dict, isi_bool_NoneType, isi_bool_bool, isi_bool_int, isi_bool_str, isi_bool_tuple, isi_bool_list, isi_bool_dict, isi_str_NoneType, isi_str_bool, isi_str_int, isi_str_str, isi_str_tuple, isi_str_list, isi_str_dict, isi_list_NoneType, isi_list_bool, isi_list_int, isi_list_str, isi_list_tuple, isi_list_list, isi_list_dict, isi_tuple_NoneType, isi_tuple_bool, isi_tuple_int, isi_tuple_str, isi_tuple_tuple, isi_tuple_list, isi_tuple_dict, isi_dict_NoneType, isi_dict_bool, isi_dict_int, isi_dict_str, isi_dict_tuple, isi_dict_list, isi_dict_dict, List.map_cons, List.map_nil, List.cons_append, List.nil_append, List.length_cons, List.length_nil, List.replicate_succ, List.replicate_zero, Nat.reduceAdd, Nat.reduceSub, Nat.zero_add, true_and, and_true, Bool.not_true, Bool.not_false, Bool.true_or, Bool.or_true, Bool.false_or, Bool.or_false, if_true, if_false, Bool.false_eq_true])
      exact h0 _ (by simp [intsD_tI, h]) rfl
  · (try simp only [wC_ap, wSetI_ap, wExpr_ap, wRet_ap, wRetN_ap, wRet0_ap, wIf_ap, wFor_ap, wWhile_ap, wBreak_ap, wCont_ap, wNever_ap, wPick_ap, wCallL_ap, wOp_ap, wIxO_ap, wNoPart_ap, wPart_ap, wSl_ap, wUn_ap, wTest_ap, wChain_ap, wTru_ap, wNotT_ap, wAndT_ap, wOrT_ap, wAnd_ap, wOr_ap, wNot_ap, wIfE_ap, wNil_ap, wCons_ap, wTup_ap, wLst_ap, wCall_ap, wCall0_ap, wCallIo_ap, wYes_ap, wGn_ap, wSr_ap, wEn_ap, wZp_ap, wRg1_ap, wRg2_ap, wLc_ap, wMeth_ap, wMeth0_ap, wNext_ap, wSeq_ap, wAsg_ap, wSet_ap, wV_ap, wPar_ap, par2_ap, wGnil_ap, wGcons_ap, wGtup_ap, sl_z, sl_s, set_z, set_s, wipe_z, wipe_s, rest_z, rest_s, oAdd_i, oAdd_t, oAdd_l, oAdd_s, oSub_i, oMul_i, oMul_t, oII_i, oII0_i, oIx_l, oIx_t, oIx_f, oIsN_n, oNotN_n, oLen_l, oLen_t, oLen_f, oInt_i, oInt_b, oI1_i, oNeg_i, oList_l, oList_t, oTuple_l, oTuple_t, oBs_l, oSl_l, oSl_t, oIsi_ap, oIsi2_ap, tyD_n, tyD_b, tyD_i, tyD_s, tyD_t, tyD_l, tyD_f, truD_n, truD_b, truD_i, truD_t, truD_l, asB_b, asI_i, asL_l, isL_l, isL_t, isL_i, isL_b, isL_n, itD_l, itD_t, itD_f, fApp_ap, fExt_ap, ex_some, onS_ap, ite_t, ite_f, bodyD_ap, ioD_c, start_ap, isi_int_NoneType, isi_int_bool, isi_int_int, isi_int_str, isi_int_tuple, isi_int_list, isi_int_dict, isi_bool_NoneType, isi_bool_bool, isi_bool_int, isi_bool_str, isi_bool_tuple, isi_bool_list, isi_bool_dict, isi_str_NoneType, isi_str_bool, isi_str_int, isi_str_str, isi_str_tuple, isi_str_list, isi_str_dict, isi_list_NoneType, isi_list_bool, isi_list_int, isi_list_str, isi_list_tuple, isi_list_list, isi_list_dict, isi_tuple_NoneType, isi_tuple_bool, isi_tuple_int, isi_tuple_str, isi_tuple_tuple, isi_tuple_list, isi_tuple_dict, isi_dict_NoneType, isi_dict_bool, isi_dict_int, isi_dict_str, isi_dict_tuple, isi_dict_list, isi_dict_dict, List.map_cons, List.map_nil, List.cons_append, List.nil_append, List.length_cons, List.length_nil, List.replicate_succ, List.replicate_zero, Nat.reduceAdd, Nat.reduceSub, Nat.zero_add, true_and, and_true, Bool.not_true, Bool.not_false, Bool.true_or, Bool.or_true, Bool.false_or, Bool.or_false, if_true, if_false, Bool.false_eq_true])
    refine ⟨small_z (by decide), ?_, by decide, q _ _ ?_⟩
    · show okL 59 _ = true
      refine okL_all fun d hd => ?_
      obtain ⟨e, he, hf⟩ := List.mem_filterMap.mp hd
      obtain ⟨s, _, rfl⟩ := List.mem_map.mp he
      by_cases hz : 0 < worthR (intsD (tI s)) ps
      · rw [if_pos hz] at hf
        injection hf with hf
        rw [← hf]; exact okD_tI 58 _
      · rw [if_neg hz] at hf; cases hf
    · rw [eqD_nil]
      show D.bl _ = D.bl (keptB ss ps)
      rw [kept_eq]
end K51
set_option Elab.async false
set_option linter.all false
set_option maxRecDepth 100000
set_option maxHeartbeats 4000000
namespace K51
open PySem PySem.Spec L2 DL
open PyProof.Rows hiding St
/-! ### whole worths that keep the sums keep the cast ones -/
theorem dot_nil (fs : List Int) : dot fs [] = 0 := by cases fs <;> rfl
theorem worth_dot : ∀ (s ps : List Int), s.length = ps.length + 1 → worthR s ps = dot s (ps ++ [1])
  | [], ps, h => by simp at h
  | [c], [], _ => by
    show c + dot [] [] = c * 1 + dot [] []
    rw [Int.mul_one]
  | [c], p :: ps, h => by simp at h
  | c :: d :: r, [], h => by simp at h
  | c :: d :: r, p :: ps, h => by
    have ih := worth_dot (d :: r) ps (by simpa using h)
    unfold worthR at ih ⊢
    have e1 : (c :: d :: r).getLastD 0 = (d :: r).getLastD 0 := by simp [List.getLastD]
    have e2 : (c :: d :: r).dropLast = c :: (d :: r).dropLast := rfl
    rw [e1, e2]
    show (d :: r).getLastD 0 + (c * p + dot (d :: r).dropLast ps) = c * p + dot (d :: r) (ps ++ [1])
    rw [← ih]; omega
theorem dot_pair (a b : Int) : ∀ (l h qs : List Int), l.length = h.length → dot (List.zipWith (· + ·) (l.map (a * ·)) (h.map (b * ·))) qs = a * dot l qs + b * dot h qs
  | [], [], qs, _ => by simp [dot]
  | [], _ :: _, _, e => by simp at e
  | _ :: _, [], _, e => by simp at e
  | x :: l, y :: h, [], _ => by rw [dot_nil, dot_nil, dot_nil]; simp
  | x :: l, y :: h, q :: qs, e => by
    have ih := dot_pair a b l h qs (by simpa using e)
    show (a * x + b * y) * q + dot (List.zipWith (· + ·) (l.map (a * ·)) (h.map (b * ·))) qs = a * (x * q + dot l qs) + b * (y * q + dot h qs)
    rw [ih, Int.add_mul, Int.mul_add, Int.mul_add, Int.mul_assoc, Int.mul_assoc]; omega
theorem gcdL_dvd (fs : List Int) : ∀ f ∈ fs, gcdL fs ∣ f.natAbs := by
  have key : ∀ (fs : List Int) (g : Nat), (fs.foldl (fun g n => Nat.gcd g n.natAbs) g ∣ g) ∧ ∀ f ∈ fs, fs.foldl (fun g n => Nat.gcd g n.natAbs) g ∣ f.natAbs := by
    intro fs
    induction fs with
    | nil => intro g; exact ⟨Nat.dvd_refl _, fun f h => nomatch h⟩
    | cons z r ih =>
      intro g
      obtain ⟨h1, h2⟩ := ih (Nat.gcd g z.natAbs)
      refine ⟨Nat.dvd_trans h1 (Nat.gcd_dvd_left ..), fun f hf => ?_⟩
      rcases List.mem_cons.mp hf with e | e
      · rw [e]; exact Nat.dvd_trans h1 (Nat.gcd_dvd_right ..)
      · exact h2 f e
  exact (key fs 0).2
theorem dot_div {g : Int} (hg : g ≠ 0) : ∀ (fs ps : List Int), (∀ f ∈ fs, g ∣ f) → g * dot (fs.map (· / g)) ps = dot fs ps
  | [], ps, _ => by simp [dot]
  | f :: fs, [], _ => by rw [dot_nil, dot_nil]; simp
  | f :: fs, p :: ps, h => by
    have ih := dot_div hg fs ps fun x hx => h x (List.mem_cons_of_mem _ hx)
    have hf := Int.mul_ediv_cancel' (h f (List.mem_cons_self ..))
    show g * (f / g * p + dot (fs.map (· / g)) ps) = f * p + dot fs ps
    rw [Int.mul_add, ih, ← Int.mul_assoc, hf]
theorem dot_zero : ∀ (fs ps : List Int), (∀ f ∈ fs, f = 0) → dot fs ps = 0
  | [], ps, _ => by simp [dot]
  | f :: fs, [], _ => dot_nil _
  | f :: fs, p :: ps, h => by
    show f * p + dot fs ps = 0
    rw [h f (List.mem_cons_self ..), dot_zero fs ps fun x hx => h x (List.mem_cons_of_mem _ hx)]; simp
theorem worth_app (fs : List Int) (c : Int) (ps : List Int) : worthR (fs ++ [c]) ps = c + dot fs ps := by
  unfold worthR
  rw [List.dropLast_concat]
  simp [List.getLastD_eq_getLast?]
theorem worth_plain (fs : List Int) (c : Int) (ps : List Int) (h : worthR (fs ++ [c]) ps ≤ 0) : worthR (plainS fs c) ps ≤ 0 := by
  rw [worth_app] at h
  unfold plainS
  by_cases hz : gcdL fs = 0
  · rw [if_pos hz, worth_app]
    have h0 : dot fs ps = 0 := dot_zero fs ps fun f hf => by
      have := gcdL_dvd fs f hf
      rw [hz] at this
      have := Nat.eq_zero_of_zero_dvd this
      omega
    rw [h0] at h ⊢
    rw [if_neg (by omega)]; omega
  · rw [if_neg hz, worth_app]
    have g0 : 0 < (gcdL fs : Int) := by omega
    have hd := dot_div (g := (gcdL fs : Int)) (by omega) fs ps fun f hf => Int.ofNat_dvd_left.mpr (gcdL_dvd fs f hf)
    have e1 := Int.emod_add_mul_ediv c (gcdL fs)
    have n1 := Int.emod_nonneg c (show (gcdL fs : Int) ≠ 0 by omega)
    have hc : (gcdL fs : Int) * cdiv c (gcdL fs) < c + gcdL fs := by
      unfold cdiv
      rw [Int.mul_add]
      split
      · rw [Int.mul_one]; omega
      · rw [Int.mul_zero]; omega
    have hm : (gcdL fs : Int) * (cdiv c (gcdL fs) + dot (fs.map (· / (gcdL fs : Int))) ps) < (gcdL fs : Int) * 1 := by
      rw [Int.mul_add, hd]; omega
    have := Int.lt_of_mul_lt_mul_left hm (Int.le_of_lt g0)
    omega
theorem worth_plainR {s ps : List Int} (ne : s ≠ []) (h : worthR s ps ≤ 0) : worthR (plainR s) ps ≤ 0 := by
  unfold plainR
  refine worth_plain _ _ _ ?_
  rw [split_last ne]; exact h
theorem lows_neg (at_ : Nat) : ∀ (i : Nat) (ss : List (List Int)) (j : Nat), j ∈ lowsOf at_ i ss → facAt (ss.getD (j - i) []) at_ < 0
  | _, [], j, h => by cases h
  | i, s :: r, j, h => by
    rw [show lowsOf at_ i (s :: r) = if facAt s at_ < 0 then i :: lowsOf at_ (i + 1) r else lowsOf at_ (i + 1) r from rfl] at h
    have key : j ∈ lowsOf at_ (i + 1) r → facAt ((s :: r).getD (j - i) []) at_ < 0 := fun h => by
      have h1 := lows_neg at_ (i + 1) r j h
      have h2 := lows_lt at_ (i + 1) r j h
      rw [show j - i = (j - (i + 1)) + 1 by omega]
      exact h1
    split at h
    · rename_i hs
      rcases List.mem_cons.mp h with h | h
      · rw [h, Nat.sub_self]; exact hs
      · exact key h
    · exact key h
theorem highs_pos (at_ : Nat) : ∀ (i : Nat) (ss : List (List Int)) (j : Nat), j ∈ highsOf at_ i ss → 0 < facAt (ss.getD (j - i) []) at_
  | _, [], j, h => by cases h
  | i, s :: r, j, h => by
    rw [show highsOf at_ i (s :: r) = if 0 < facAt s at_ then i :: highsOf at_ (i + 1) r else highsOf at_ (i + 1) r from rfl] at h
    have key : j ∈ highsOf at_ (i + 1) r → 0 < facAt ((s :: r).getD (j - i) []) at_ := fun h => by
      have h1 := highs_pos at_ (i + 1) r j h
      have h2 := highs_lt at_ (i + 1) r j h
      rw [show j - i = (j - (i + 1)) + 1 by omega]
      exact h1
    split at h
    · rename_i hs
      rcases List.mem_cons.mp h with h | h
      · rw [h, Nat.sub_self]; exact hs
      · exact key h
    · exact key h
theorem old_mem (at_ : Nat) : ∀ (i : Nat) (ss : List (List Int)) (r : List Int × Mk), r ∈ oldRows at_ i ss → ∃ s ∈ ss, r.1 = plainR s
  | _, [], r, h => by cases h
  | i, s :: t, r, h => by
    rw [show oldRows at_ i (s :: t) = if facAt s at_ = 0 then (plainR s, .old i) :: oldRows at_ (i + 1) t else oldRows at_ (i + 1) t from rfl] at h
    have key : r ∈ oldRows at_ (i + 1) t → ∃ s' ∈ s :: t, r.1 = plainR s' := fun h => by
      obtain ⟨s', h1, h2⟩ := old_mem at_ (i + 1) t r h
      exact ⟨s', List.mem_cons_of_mem _ h1, h2⟩
    split at h
    · rcases List.mem_cons.mp h with h | h
      · rw [h]; exact ⟨s, List.mem_cons_self .., rfl⟩
      · exact key h
    · exact key h
theorem kept_rows {ss : List (List Int)} {n at_ : Nat} {ps : List Int} (p : CastOk ss n at_) (hp : ps.length = n) (h : keptB ss ps = true) : keptB ((rowsOf ss at_).map (·.1)) ps = true := by
  have hk : ∀ s ∈ ss, worthR s ps ≤ 0 := fun s hs => by
    unfold keptB at h
    rw [List.all_eq_true] at h
    exact of_decide_eq_true (h s hs)
  unfold keptB
  rw [List.all_eq_true]
  intro t ht
  obtain ⟨r, hr, rfl⟩ := List.mem_map.mp ht
  refine decide_eq_true ?_
  unfold rowsOf at hr
  have hr := (List.mem_filter.mp hr).1
  rcases List.mem_append.mp hr with hr | hr
  · obtain ⟨s, hs, e⟩ := old_mem at_ 0 ss r hr
    rw [e]
    exact worth_plainR (p.pl hs).ne (hk s hs)
  · obtain ⟨q, hq, e⟩ := List.mem_map.mp hr
    subst e
    have hlt := pairs_lt hq
    have ml := getD_mem hlt.1
    have mh := getD_mem hlt.2
    have pp := pair_pl (at_ := at_) p ml mh
    refine worth_plainR pp.ne ?_
    rw [worth_dot _ _ (by rw [pp.len, hp])]
    unfold pairS
    rw [dot_pair _ _ _ _ _ (by rw [p.len _ ml, p.len _ mh])]
    have wl := hk _ ml
    have wh := hk _ mh
    rw [worth_dot _ _ (by rw [p.len _ ml, hp])] at wl
    rw [worth_dot _ _ (by rw [p.len _ mh, hp])] at wh
    unfold pairsOf at hq
    obtain ⟨l, hl, hq⟩ := List.mem_flatMap.mp hq
    obtain ⟨k, hk2, e⟩ := List.mem_map.mp hq
    subst e
    have h1 := lows_neg at_ 0 ss l hl
    have h2 := highs_pos at_ 0 ss k hk2
    rw [Nat.sub_zero] at h1 h2
    have wl : dot (ss.getD l []) (ps ++ [1]) ≤ 0 := wl
    have wh : dot (ss.getD k []) (ps ++ [1]) ≤ 0 := wh
    have m1 := Int.mul_nonneg (show 0 ≤ facAt (ss.getD k []) at_ by omega) (show 0 ≤ -(dot (ss.getD l []) (ps ++ [1])) by omega)
    have m2 := Int.mul_nonneg (show 0 ≤ 0 - facAt (ss.getD l []) at_ by omega) (show 0 ≤ -(dot (ss.getD k []) (ps ++ [1])) by omega)
    rw [Int.mul_neg] at m1 m2
    show facAt (ss.getD k []) at_ * dot (ss.getD l []) (ps ++ [1]) + (0 - facAt (ss.getD l []) at_) * dot (ss.getD k []) (ps ++ [1]) ≤ 0
    omega
end K51
set_option Elab.async false
set_option linter.all false
set_option maxRecDepth 100000
set_option maxHeartbeats 4000000
namespace K51
open PySem PySem.Spec L2 DL
open PyProof.Rows hiding St
/-! _law_right, law -/
theorem noL_ints (ns : List Int) : noLL (ns.map D.int) = true := by
  induction ns with
  | nil => unfold noLL; rfl
  | cons z r ih => show noLL (D.int z :: r.map D.int) = true; unfold noLL; rw [ih]; unfold noL; rfl
theorem noL_tI (ns : List Int) : noL (tI ns) = true := by unfold tI noL; exact noL_ints ns
theorem noLL_all : ∀ {ds : List D}, (∀ d ∈ ds, noL d = true) → noLL ds = true
  | [], _ => by unfold noLL; rfl
  | d :: r, h => by
    unfold noLL
    rw [h d (List.mem_cons_self ..), noLL_all fun e he => h e (List.mem_cons_of_mem _ he)]; rfl
theorem noL_mk (m : Mk) : noL m.d = true := by
  cases m <;> (unfold Mk.d noL noLL; unfold noL; unfold noLL; first | rfl | (unfold noL; unfold noLL; rfl) | (unfold noL noLL noL noLL; rfl))
theorem noL_rows (rs : List (List Int × Mk)) : noLt (.lst (rs.map rowD)) = true := by
  show noLL (rs.map rowD) = true
  refine noLL_all fun d hd => ?_
  obtain ⟨r, _, rfl⟩ := List.mem_map.mp hd
  unfold rowD noL noLL
  rw [noL_tI]
  unfold noLL
  rw [noL_mk]
  unfold noLL
  rfl
theorem okD_mk (n : Nat) (m : Mk) : okD (n + 1) m.d = true := by
  have s1 : okD n (.str "old") = true := by cases n <;> (unfold okD; decide +kernel)
  have s2 : okD n (.str "pair") = true := by cases n <;> (unfold okD; decide +kernel)
  cases m with
  | old p =>
    show okD (n + 1) (.tup [.str "old", .int p]) = true
    unfold okD
    refine okL_all fun d hd => ?_
    rcases List.mem_cons.mp hd with e | hd
    · rw [e]; exact s1
    · rw [List.mem_singleton.mp hd]; exact okD_int _ _
  | pair l h =>
    show okD (n + 1) (.tup [.str "pair", .int l, .int h]) = true
    unfold okD
    refine okL_all fun d hd => ?_
    rcases List.mem_cons.mp hd with e | hd
    · rw [e]; exact s2
    · rcases List.mem_cons.mp hd with e | hd
      · rw [e]; exact okD_int _ _
      · rw [List.mem_singleton.mp hd]; exact okD_int _ _
theorem okD_rows (rs : List (List Int × Mk)) : okD 60 (.lst (rs.map rowD)) = true := by
  unfold okD
  refine okL_all fun d hd => ?_
  obtain ⟨r, _, rfl⟩ := List.mem_map.mp hd
  unfold rowD okD
  refine okL_all fun d hd => ?_
  rcases List.mem_cons.mp hd with e | hd
  · rw [e]; exact okD_tI 57 _
  · rw [List.mem_singleton.mp hd]; exact okD_mk 57 _
theorem okD_sums (ss : List (List Int)) : okD 60 (.lst (ss.map tI)) = true := by
  unfold okD
  refine okL_all fun d hd => ?_
  obtain ⟨s, _, rfl⟩ := List.mem_map.mp hd
  exact okD_tI 58 _
theorem oList_sq (b : Bool) (x : List D) (P : D → Prop) : oList (sq b x) P = P (.lst x) := by cases b <;> rfl
theorem isi_sq (b : Bool) : isiT "list" (if b = true then "list" else "tuple") = b := by
  cases b
  · exact isi_list_tuple
  · exact isi_list_list
theorem pick2 (xs : List D) {z : Nat} (h : (z : Int) < 2) : ∃ b : Bool, atI [D.lst xs, D.tup xs] (z : Int) = some (sq b xs) := by
  have : z = 0 ∨ z = 1 := by omega
  rcases this with rfl | rfl
  · exact ⟨true, rfl⟩
  · exact ⟨false, rfl⟩
theorem fm_none {α β : Type} (l : List α) : l.filterMap (fun _ => (none : Option β)) = [] := by
  induction l with
  | nil => rfl
  | cons a r ih => rw [List.filterMap_cons, ih]
theorem plainR_s8 {s : List Int} {n : Nat} (h : PlOk s n) : ∀ z ∈ (plainR s).dropLast, z.natAbs ≤ 100000000 := by
  unfold plainR plainS
  intro z hz
  by_cases hg : gcdL s.dropLast = 0
  · rw [if_pos hg, List.dropLast_concat] at hz
    exact h.s8 z hz
  · rw [if_neg hg, List.dropLast_concat] at hz
    obtain ⟨f, hf, rfl⟩ := List.mem_map.mp hz
    exact Nat.le_trans (Int.natAbs_ediv_le_natAbs _ _) (h.s8 f hf)
theorem rows_pl {ss : List (List Int)} {n at_ : Nat} (p : CastOk ss n at_) : ∀ r ∈ rowsOf ss at_, ∃ s, PlOk s n ∧ r.1 = plainR s := by
  intro r hr
  unfold rowsOf at hr
  have hr := (List.mem_filter.mp hr).1
  rcases List.mem_append.mp hr with hr | hr
  · obtain ⟨s, hs, e⟩ := old_mem at_ 0 ss r hr
    exact ⟨s, p.pl hs, e⟩
  · obtain ⟨q, hq, e⟩ := List.mem_map.mp hr
    subst e
    have hlt := pairs_lt hq
    exact ⟨_, pair_pl p (getD_mem hlt.1) (getD_mem hlt.2), rfl⟩
theorem rows_few {ss : List (List Int)} {at_ : Nat} (h : ss.length ≤ 100) : (rowsOf ss at_).length ≤ 20000 := by
  unfold rowsOf
  refine Nat.le_trans (List.length_filter_le ..) ?_
  have h1 := old_len at_ 0 ss
  have h2 := pairs_len (at_ := at_) h
  simp only [List.length_append, List.length_map]
  omega
theorem right_pre {s ps : List Int} {n : Nat} (h : PlOk s n) (hp : ps.length = n) : (plainR s).length = ps.length + 1 ∧ small8 (plainR s).dropLast := ⟨by rw [plainR_len h, hp], plainR_s8 h⟩
theorem h_law_right : ∀ ds EF PF, f_law_right ds EF PF → ds.length = 3 ∧ bodyD 11 b_law_right ds EF PF := by
  rintro ds EF PF ⟨⟨box, ss, n, at_⟩, rfl, ⟨⟨b0, b1, b2, e, p1, p2⟩, p⟩, q⟩
  refine ⟨rfl, ?_⟩
  have e : box = .lst [.int b0, .int b1, .int b2] := e
  subst e
  have p : CastOk ss n at_ := p
  have hat := p.at_
  have h10 := p.n10
  have hfew := p.few
  have hrf := rows_few (at_ := at_) hfew
  have line : ∀ {k : Nat}, k ≤ 16000000 → k < sizeLine := fun h => by rw [sizeLine_eq]; omega
  have ro := okD_rows (rowsOf ss at_)
  have so := okD_sums ss
  unfold b_law_right
  (try simp only [wC_ap, wSetI_ap, wExpr_ap, wRet_ap, wRetN_ap, wRet0_ap, wIf_ap, wFor_ap, wWhile_ap, wBreak_ap, wCont_ap, wNever_ap, wPick_ap, wCallL_ap, wOp_ap, wIxO_ap, wNoPart_ap, wPart_ap, wSl_ap, wUn_ap, wTest_ap, wChain_ap, wTru_ap, wNotT_ap, wAndT_ap, wOrT_ap, wAnd_ap, wOr_ap, wNot_ap, wIfE_ap, wNil_ap, wCons_ap, wTup_ap, wLst_ap, wCall_ap, wCall0_ap, wCallIo_ap, wYes_ap, wGn_ap, wSr_ap, wEn_ap, wZp_ap, wRg1_ap, wRg2_ap, wLc_ap, wMeth_ap, wMeth0_ap, wNext_ap, wSeq_ap, wAsg_ap, wSet_ap, wV_ap, wPar_ap, par2_ap, wGnil_ap, wGcons_ap, wGtup_ap, sl_z, sl_s, set_z, set_s, wipe_z, wipe_s, rest_z, rest_s, oAdd_i, oAdd_t, oAdd_l, oAdd_s, oSub_i, oMul_i, oMul_t, oII_i, oII0_i, oIx_l, oIx_t, oIx_f, oIsN_n, oNotN_n, oLen_l, oLen_t, oLen_f, oInt_i, oInt_b, oI1_i, oNeg_i, oList_l, oList_t, oTuple_l, oTuple_t, oBs_l, oSl_l, oSl_t, oIsi_ap, oIsi2_ap, tyD_n, tyD_b, tyD_i, tyD_s, tyD_t, tyD_l, tyD_f, truD_n, truD_b, truD_i, truD_t, truD_l, asB_b, asI_i, asL_l, isL_l, isL_t, isL_i, isL_b, isL_n, itD_l, itD_t, itD_f, fApp_ap, fExt_ap, ex_some, onS_ap, ite_t, ite_f, bodyD_ap, ioD_c, start_ap, isi_int_NoneType, isi_int_bool, isi_int_int, isi_int_str, isi_int_tuple, isi_int_list, isi_int_dict, isi_bool_NoneType, isi_bool_bool, isi_bool_int, isi_bool_str, isi_bool_tuple, isi_bool_list, isi_bool_dict, isi_str_NoneType, isi_str_bool, isi_str_int, isi_str_str, isi_str_tuple, isi_str_list, isi_str_dict, isi_list_NoneType, isi_list_bool, isi_list_int, isi_list_str, isi_list_tuple, isi_list_list, isi_list_dict, isi_tuple_NoneType, isi_tuple_bool, isi_tuple_int, isi_tuple_str, isi_tuple_tuple, isi_tuple_list, isi_tuple_dict, isi_dict_NoneType, isi_dict_bool, isi_dict_int, isi_dict_str, isi_dict_tuple, isi_dict_list, isi_dict_dict, List.map_cons, List.map_nil, List.cons_append, List.nil_append, List.length_cons, List.length_nil, List.replicate_succ, List.replicate_zero, Nat.reduceAdd, Nat.reduceSub, Nat.zero_add, true_and, and_true, Bool.not_true, Bool.not_false, Bool.true_or, Bool.or_true, Bool.false_or, Bool.or_false, if_true, if_false, Bool.false_eq_true])
  refine ⟨(ss, n, at_), rfl, p, ?_⟩
  rintro r c' ⟨prs, rfl⟩
  (try simp only [wC_ap, wSetI_ap, wExpr_ap, wRet_ap, wRetN_ap, wRet0_ap, wIf_ap, wFor_ap, wWhile_ap, wBreak_ap, wCont_ap, wNever_ap, wPick_ap, wCallL_ap, wOp_ap, wIxO_ap, wNoPart_ap, wPart_ap, wSl_ap, wUn_ap, wTest_ap, wChain_ap, wTru_ap, wNotT_ap, wAndT_ap, wOrT_ap, wAnd_ap, wOr_ap, wNot_ap, wIfE_ap, wNil_ap, wCons_ap, wTup_ap, wLst_ap, wCall_ap, wCall0_ap, wCallIo_ap, wYes_ap, wGn_ap, wSr_ap, wEn_ap, wZp_ap, wRg1_ap, wRg2_ap, wLc_ap, wMeth_ap, wMeth0_ap, wNext_ap, wSeq_ap, wAsg_ap, wSet_ap, wV_ap, wPar_ap, par2_ap, wGnil_ap, wGcons_ap, wGtup_ap, sl_z, sl_s, set_z, set_s, wipe_z, wipe_s, rest_z, rest_s, oAdd_i, oAdd_t, oAdd_l, oAdd_s, oSub_i, oMul_i, oMul_t, oII_i, oII0_i, oIx_l, oIx_t, oIx_f, oIsN_n, oNotN_n, oLen_l, oLen_t, oLen_f, oInt_i, oInt_b, oI1_i, oNeg_i, oList_l, oList_t, oTuple_l, oTuple_t, oBs_l, oSl_l, oSl_t, oIsi_ap, oIsi2_ap, tyD_n, tyD_b, tyD_i, tyD_s, tyD_t, tyD_l, tyD_f, truD_n, truD_b, truD_i, truD_t, truD_l, asB_b, asI_i, asL_l, isL_l, isL_t, isL_i, isL_b, isL_n, itD_l, itD_t, itD_f, fApp_ap, fExt_ap, ex_some, onS_ap, ite_t, ite_f, bodyD_ap, ioD_c, start_ap, isi_int_NoneType, isi_int_bool, isi_int_int, isi_int_str, isi_int_tuple, isi_int_list, isi_int_dict, isi_bool_NoneType, isi_bool_bool, isi_bool_int, isi_bool_str, isi_bool_tuple, isi_bool_list, isi_bool_dict, isi_str_NoneType, isi_str_bool, isi_str_int, isi_str_str, isi_str_tuple, isi_str_list, isi_str_dict, isi_list_NoneType, isi_list_bool, isi_list_int, isi_list_str, isi_list_tuple, isi_list_list, isi_list_dict, isi_tuple_NoneType, isi_tuple_bool, isi_tuple_int, isi_tuple_str, isi_tuple_tuple, isi_tuple_list, isi_tuple_dict, isi_dict_NoneType, isi_dict_bool, isi_dict_int, isi_dict_str, isi_dict_tuple, isi_dict_list, isi_dict_dict, List.map_cons, List.map_nil, List.cons_append, List.nil_append, List.length_cons, List.length_nil, List.replicate_succ, List.replicate_zero, Nat.reduceAdd, Nat.reduceSub, Nat.zero_add, true_and, and_true, Bool.not_true, Bool.not_false, Bool.true_or, Bool.or_true, Bool.false_or, Bool.or_false, if_true, if_false, Bool.false_eq_true])
  refine ⟨(.lst [.int b0, .int b1, .int b2], 2), rfl, tkp p1 p2 (by decide) (by decide), ?_⟩
  rintro r c' ⟨⟨z, rfl, hz⟩, a0, a1, a2, rfl, ha1, ha2⟩
  obtain ⟨b, hb⟩ := pick2 (ss.map tI) hz
  (try simp only [wC_ap, wSetI_ap, wExpr_ap, wRet_ap, wRetN_ap, wRet0_ap, wIf_ap, wFor_ap, wWhile_ap, wBreak_ap, wCont_ap, wNever_ap, wPick_ap, wCallL_ap, wOp_ap, wIxO_ap, wNoPart_ap, wPart_ap, wSl_ap, wUn_ap, wTest_ap, wChain_ap, wTru_ap, wNotT_ap, wAndT_ap, wOrT_ap, wAnd_ap, wOr_ap, wNot_ap, wIfE_ap, wNil_ap, wCons_ap, wTup_ap, wLst_ap, wCall_ap, wCall0_ap, wCallIo_ap, wYes_ap, wGn_ap, wSr_ap, wEn_ap, wZp_ap, wRg1_ap, wRg2_ap, wLc_ap, wMeth_ap, wMeth0_ap, wNext_ap, wSeq_ap, wAsg_ap, wSet_ap, wV_ap, wPar_ap, par2_ap, wGnil_ap, wGcons_ap, wGtup_ap, sl_z, sl_s, set_z, set_s, wipe_z, wipe_s, rest_z, rest_s, oAdd_i, oAdd_t, oAdd_l, oAdd_s, oSub_i, oMul_i, oMul_t, oII_i, oII0_i, oIx_l, oIx_t, oIx_f, oIsN_n, oNotN_n, oLen_l, oLen_t, oLen_f, oInt_i, oInt_b, oI1_i, oNeg_i, oList_l, oList_t, oTuple_l, oTuple_t, oBs_l, oSl_l, oSl_t, oIsi_ap, oIsi2_ap, tyD_n, tyD_b, tyD_i, tyD_s, tyD_t, tyD_l, tyD_f, truD_n, truD_b, truD_i, truD_t, truD_l, asB_b, asI_i, asL_l, isL_l, isL_t, isL_i, isL_b, isL_n, itD_l, itD_t, itD_f, fApp_ap, fExt_ap, ex_some, onS_ap, ite_t, ite_f, bodyD_ap, ioD_c, start_ap, isi_int_NoneType, isi_int_bool, isi_int_int, isi_int_str, isi_int_tuple, isi_int_list, isi_int_dict, isi_bool_NoneType, isi_bool_bool, isi_bool_int, isi_bool_str, isi_bool_tuple, isi_bool_list, isi_bool_dict, isi_str_NoneType, isi_str_bool, isi_str_int, isi_str_str, isi_str_tuple, isi_str_list, isi_str_dict, isi_list_NoneType, isi_list_bool, isi_list_int, isi_list_str, isi_list_tuple, isi_list_list, isi_list_dict, isi_tuple_NoneType, isi_tuple_bool, isi_tuple_int, isi_tuple_str, isi_tuple_tuple, isi_tuple_list, isi_tuple_dict, isi_dict_NoneType, isi_dict_bool, isi_dict_int, isi_dict_str, isi_dict_tuple, isi_dict_list, isi_dict_dict, List.map_cons, List.map_nil, List.cons_append, List.nil_append, List.length_cons, List.length_nil, List.replicate_succ, List.replicate_zero, Nat.reduceAdd, Nat.reduceSub, Nat.zero_add, true_and, and_true, Bool.not_true, Bool.not_false, Bool.true_or, Bool.or_true, Bool.false_or, Bool.or_false, if_true, if_false, Bool.false_eq_true, hb, ex_some])
  refine ⟨(b, ss, n, at_), rfl, p, ?_⟩
  rintro r c' rfl
  refine ⟨fun _ => noL_rows _, ?_⟩
  (try simp only [wC_ap, wSetI_ap, wExpr_ap, wRet_ap, wRetN_ap, wRet0_ap, wIf_ap, wFor_ap, wWhile_ap, wBreak_ap, wCont_ap, wNever_ap, wPick_ap, wCallL_ap, wOp_ap, wIxO_ap, wNoPart_ap, wPart_ap, wSl_ap, wUn_ap, wTest_ap, wChain_ap, wTru_ap, wNotT_ap, wAndT_ap, wOrT_ap, wAnd_ap, wOr_ap, wNot_ap, wIfE_ap, wNil_ap, wCons_ap, wTup_ap, wLst_ap, wCall_ap, wCall0_ap, wCallIo_ap, wYes_ap, wGn_ap, wSr_ap, wEn_ap, wZp_ap, wRg1_ap, wRg2_ap, wLc_ap, wMeth_ap, wMeth0_ap, wNext_ap, wSeq_ap, wAsg_ap, wSet_ap, wV_ap, wPar_ap, par2_ap, wGnil_ap, wGcons_ap, wGtup_ap, sl_z, sl_s, set_z, set_s, wipe_z, wipe_s, rest_z, rest_s, oAdd_i, oAdd_t, oAdd_l, oAdd_s, oSub_i, oMul_i, oMul_t, oII_i, oII0_i, oIx_l, oIx_t, oIx_f, oIsN_n, oNotN_n, oLen_l, oLen_t, oLen_f, oInt_i, oInt_b, oI1_i, oNeg_i, oList_l, oList_t, oTuple_l, oTuple_t, oBs_l, oSl_l, oSl_t, oIsi_ap, oIsi2_ap, tyD_n, tyD_b, tyD_i, tyD_s, tyD_t, tyD_l, tyD_f, truD_n, truD_b, truD_i, truD_t, truD_l, asB_b, asI_i, asL_l, isL_l, isL_t, isL_i, isL_b, isL_n, itD_l, itD_t, itD_f, fApp_ap, fExt_ap, ex_some, onS_ap, ite_t, ite_f, bodyD_ap, ioD_c, start_ap, isi_int_NoneType, isi_int_bool, isi_int_int, isi_int_str, isi_int_tuple, isi_int_list, isi_int_dict, isi_bool_NoneType, isi_bool_bool, isi_bool_int, isi_bool_str, isi_bool_tuple, isi_bool_list, isi_bool_dict, isi_str_NoneType, isi_str_bool, isi_str_int, isi_str_str, isi_str_tuple, isi_str_list, isi_str_dict, isi_list_NoneType, isi_list_bool, isi_list_int, isi_list_str, isi_list_tuple, isi_list_list, isi_list_dict, isi_tuple_NoneType, isi_tuple_bool, isi_tuple_int, isi_tuple_str, isi_tuple_tuple, isi_tuple_list, isi_tuple_dict, isi_dict_NoneType, isi_dict_bool, isi_dict_int, isi_dict_str, isi_dict_tuple, isi_dict_list, isi_dict_dict, List.map_cons, List.map_nil, List.cons_append, List.nil_append, List.length_cons, List.length_nil, List.replicate_succ, List.replicate_zero, Nat.reduceAdd, Nat.reduceSub, Nat.zero_add, true_and, and_true, Bool.not_true, Bool.not_false, Bool.true_or, Bool.or_true, Bool.false_or, Bool.or_false, if_true, if_false, Bool.false_eq_true, oList_sq])
  refine ⟨ro, ro, ?_⟩
  rw [eqD_self ro]
  (try simp only [wC_ap, wSetI_ap, wExpr_ap, wRet_ap, wRetN_ap, wRet0_ap, wIf_ap, wFor_ap, wWhile_ap, wBreak_ap, wCont_ap, wNever_ap, wPick_ap, wCallL_ap, wOp_ap, wIxO_ap, wNoPart_ap, wPart_ap, wSl_ap, wUn_ap, wTest_ap, wChain_ap, wTru_ap, wNotT_ap, wAndT_ap, wOrT_ap, wAnd_ap, wOr_ap, wNot_ap, wIfE_ap, wNil_ap, wCons_ap, wTup_ap, wLst_ap, wCall_ap, wCall0_ap, wCallIo_ap, wYes_ap, wGn_ap, wSr_ap, wEn_ap, wZp_ap, wRg1_ap, wRg2_ap, wLc_ap, wMeth_ap, wMeth0_ap, wNext_ap, wSeq_ap, wAsg_ap, wSet_ap, wV_ap, wPar_ap, par2_ap, wGnil_ap, wGcons_ap, wGtup_ap, sl_z, sl_s, set_z, set_s, wipe_z, wipe_s, rest_z, rest_s, oAdd_i, oAdd_t, oAdd_l, oAdd_s, oSub_i, oMul_i, oMul_t, oII_i, oII0_i, oIx_l, oIx_t, oIx_f, oIsN_n, oNotN_n, oLen_l, oLen_t, oLen_f, oInt_i, oInt_b, oI1_i, oNeg_i, oList_l, oList_t, oTuple_l, oTuple_t, oBs_l, oSl_l, oSl_t, oIsi_ap, oIsi2_ap, tyD_n, tyD_b, tyD_i, tyD_s, tyD_t, tyD_l, tyD_f, truD_n, truD_b, truD_i, truD_t, truD_l, asB_b, asI_i, asL_l, isL_l, isL_t, isL_i, isL_b, isL_n, itD_l, itD_t, itD_f, fApp_ap, fExt_ap, ex_some, onS_ap, ite_t, ite_f, bodyD_ap, ioD_c, start_ap, isi_int_NoneType, isi_int_bool, isi_int_int, isi_int_str, isi_int_tuple, isi_int_list, isi_int_dict, isi_bool_NoneType, isi_bool_bool, isi_bool_int, isi_bool_str, isi_bool_tuple, isi_bool_list, isi_bool_dict, isi_str_NoneType, isi_str_bool, isi_str_int, isi_str_str, isi_str_tuple, isi_str_list, isi_str_dict, isi_list_NoneType, isi_list_bool, isi_list_int, isi_list_str, isi_list_tuple, isi_list_list, isi_list_dict, isi_tuple_NoneType, isi_tuple_bool, isi_tuple_int, isi_tuple_str, isi_tuple_tuple, isi_tuple_list, isi_tuple_dict, isi_dict_NoneType, isi_dict_bool, isi_dict_int, isi_dict_str, isi_dict_tuple, isi_dict_list, isi_dict_dict, List.map_cons, List.map_nil, List.cons_append, List.nil_append, List.length_cons, List.length_nil, List.replicate_succ, List.replicate_zero, Nat.reduceAdd, Nat.reduceSub, Nat.zero_add, true_and, and_true, Bool.not_true, Bool.not_false, Bool.true_or, Bool.or_true, Bool.false_or, Bool.or_false, if_true, if_false, Bool.false_eq_true, oList_sq])
  refine ⟨so, so, ?_⟩
  rw [eqD_self so]
  (try simp only [wC_ap, wSetI_ap, wExpr_ap, wRet_ap, wRetN_ap, wRet0_ap, wIf_ap, wFor_ap, wWhile_ap, wBreak_ap, wCont_ap, wNever_ap, wPick_ap, wCallL_ap, wOp_ap, wIxO_ap, wNoPart_ap, wPart_ap, wSl_ap, wUn_ap, wTest_ap, wChain_ap, wTru_ap, wNotT_ap, wAndT_ap, wOrT_ap, wAnd_ap, wOr_ap, wNot_ap, wIfE_ap, wNil_ap, wCons_ap, wTup_ap, wLst_ap, wCall_ap, wCall0_ap, wCallIo_ap, wYes_ap, wGn_ap, wSr_ap, wEn_ap, wZp_ap, wRg1_ap, wRg2_ap, wLc_ap, wMeth_ap, wMeth0_ap, wNext_ap, wSeq_ap, wAsg_ap, wSet_ap, wV_ap, wPar_ap, par2_ap, wGnil_ap, wGcons_ap, wGtup_ap, sl_z, sl_s, set_z, set_s, wipe_z, wipe_s, rest_z, rest_s, oAdd_i, oAdd_t, oAdd_l, oAdd_s, oSub_i, oMul_i, oMul_t, oII_i, oII0_i, oIx_l, oIx_t, oIx_f, oIsN_n, oNotN_n, oLen_l, oLen_t, oLen_f, oInt_i, oInt_b, oI1_i, oNeg_i, oList_l, oList_t, oTuple_l, oTuple_t, oBs_l, oSl_l, oSl_t, oIsi_ap, oIsi2_ap, tyD_n, tyD_b, tyD_i, tyD_s, tyD_t, tyD_l, tyD_f, truD_n, truD_b, truD_i, truD_t, truD_l, asB_b, asI_i, asL_l, isL_l, isL_t, isL_i, isL_b, isL_n, itD_l, itD_t, itD_f, fApp_ap, fExt_ap, ex_some, onS_ap, ite_t, ite_f, bodyD_ap, ioD_c, start_ap, isi_int_NoneType, isi_int_bool, isi_int_int, isi_int_str, isi_int_tuple, isi_int_list, isi_int_dict, isi_bool_NoneType, isi_bool_bool, isi_bool_int, isi_bool_str, isi_bool_tuple, isi_bool_list, isi_bool_dict, isi_str_NoneType, isi_str_bool, isi_str_int, isi_str_str, isi_str_tuple, isi_str_list, isi_str_dict, isi_list_NoneType, isi_list_bool, isi_list_int, isi_list_str, isi_list_tuple, isi_list_list, isi_list_dict, isi_tuple_NoneType, isi_tuple_bool, isi_tuple_int, isi_tuple_str, isi_tuple_tuple, isi_tuple_list, isi_tuple_dict, isi_dict_NoneType, isi_dict_bool, isi_dict_int, isi_dict_str, isi_dict_tuple, isi_dict_list, isi_dict_dict, List.map_cons, List.map_nil, List.cons_append, List.nil_append, List.length_cons, List.length_nil, List.replicate_succ, List.replicate_zero, Nat.reduceAdd, Nat.reduceSub, Nat.zero_add, true_and, and_true, Bool.not_true, Bool.not_false, Bool.true_or, Bool.or_true, Bool.false_or, Bool.or_false, if_true, if_false, Bool.false_eq_true])
  refine ⟨by rw [List.length_map]; exact small_z (by omega), lc_fm (fun _ => none) ?_ ?_⟩
  · intro d hd K1 K0 h1 h0
    obtain ⟨⟨t, m⟩, hr, rfl⟩ := List.mem_map.mp hd
    have hm : ∃ xs, m.d = .tup xs := by cases m <;> exact ⟨_, rfl⟩
    obtain ⟨xs, hm⟩ := hm
    have hd' : rowD (t, m) = .tup [tI t, .tup xs] := by unfold rowD; rw [hm]
    rw [hd']
    (try simp only [wC_ap, wSetI_ap, wExpr_ap, wRet_ap, wRetN_ap, wRet0_ap, wIf_ap, wFor_ap, wWhile_ap, wBreak_ap, wCont_ap, wNever_ap, wPick_ap, wCallL_ap, wOp_ap, wIxO_ap, wNoPart_ap, wPart_ap, wSl_ap, wUn_ap, wTest_ap, wChain_ap, wTru_ap, wNotT_ap, wAndT_ap, wOrT_ap, wAnd_ap, wOr_ap, wNot_ap, wIfE_ap, wNil_ap, wCons_ap, wTup_ap, wLst_ap, wCall_ap, wCall0_ap, wCallIo_ap, wYes_ap, wGn_ap, wSr_ap, wEn_ap, wZp_ap, wRg1_ap, wRg2_ap, wLc_ap, wMeth_ap, wMeth0_ap, wNext_ap, wSeq_ap, wAsg_ap, wSet_ap, wV_ap, wPar_ap, par2_ap, wGnil_ap, wGcons_ap, wGtup_ap, sl_z, sl_s, set_z, set_s, wipe_z, wipe_s, rest_z, rest_s, oAdd_i, oAdd_t, oAdd_l, oAdd_s, oSub_i, oMul_i, oMul_t, oII_i, oII0_i, oIx_l, oIx_t, oIx_f, oIsN_n, oNotN_n, oLen_l, oLen_t, oLen_f, oInt_i, oInt_b, oI1_i, oNeg_i, oList_l, oList_t, oTuple_l, oTuple_t, oBs_l, oSl_l, oSl_t, oIsi_ap, oIsi2_ap, tyD_n, tyD_b, tyD_i, tyD_s, tyD_t, tyD_l, tyD_f, truD_n, truD_b, truD_i, truD_t, truD_l, asB_b, asI_i, asL_l, isL_l, isL_t, isL_i, isL_b, isL_n, itD_l, itD_t, itD_f, fApp_ap, fExt_ap, ex_some, onS_ap, ite_t, ite_f, bodyD_ap, ioD_c, start_ap, isi_int_NoneType, isi_int_bool, isi_int_int, isi_int_str, isi_int_tuple, isi_int_list, isi_int_dict, isi_bool_NoneType, isi_bool_bool, isi_bool_int, isi_bool_str, isi_bool_tuple, isi_bool_list, isi_bool_dict, isi_str_NoneType, isi_str_bool, isi_str_int, isi_str_str, isi_str_tuple, isi_str_list, isi_str_dict, isi_list_NoneType, isi_list_bool, isi_list_int, isi_list_str, isi_list_tuple, isi_list_list, isi_list_dict, isi_tuple_NoneType, isi_tuple_bool, isi_tuple_int, isi_tuple_str, isi_tuple_tuple, isi_tuple_list, isi_tuple_dict, isi_dict_NoneType, isi_dict_bool, isi_dict_int, isi_dict_str, isi_dict_tuple, isi_dict_list, isi_dict_dict, List.map_cons, List.map_nil, List.cons_append, List.nil_append, List.length_cons, List.length_nil, List.replicate_succ, List.replicate_zero, Nat.reduceAdd, Nat.reduceSub, Nat.zero_add, true_and, and_true, Bool.not_true, Bool.not_false, Bool.true_or, Bool.or_true, Bool.false_or, Bool.or_false, if_true, if_false, Bool.false_eq_true, atI_z, atI_1, tyD_tI])
    exact h0 _ rfl rfl
  · rw [fm_none]
    (try simp only [wC_ap, wSetI_ap, wExpr_ap, wRet_ap, wRetN_ap, wRet0_ap, wIf_ap, wFor_ap, wWhile_ap, wBreak_ap, wCont_ap, wNever_ap, wPick_ap, wCallL_ap, wOp_ap, wIxO_ap, wNoPart_ap, wPart_ap, wSl_ap, wUn_ap, wTest_ap, wChain_ap, wTru_ap, wNotT_ap, wAndT_ap, wOrT_ap, wAnd_ap, wOr_ap, wNot_ap, wIfE_ap, wNil_ap, wCons_ap, wTup_ap, wLst_ap, wCall_ap, wCall0_ap, wCallIo_ap, wYes_ap, wGn_ap, wSr_ap, wEn_ap, wZp_ap, wRg1_ap, wRg2_ap, wLc_ap, wMeth_ap, wMeth0_ap, wNext_ap, wSeq_ap, wAsg_ap, wSet_ap, wV_ap, wPar_ap, par2_ap, wGnil_ap, wGcons_ap, wGtup_ap, sl_z, sl_s, set_z, set_s, wipe_z, wipe_s, rest_z, rest_s, oAdd_i, oAdd_t, oAdd_l, oAdd_s, oSub_i, oMul_i, oMul_t, oII_i, oII0_i, oIx_l, oIx_t, oIx_f, oIsN_n, oNotN_n, oLen_l, oLen_t, oLen_f, oInt_i, oInt_b, oI1_i, oNeg_i, oList_l, oList_t, oTuple_l, oTuple_t, oBs_l, oSl_l, oSl_t, oIsi_ap, oIsi2_ap, tyD_n, tyD_b, tyD_i, tyD_s, tyD_t, tyD_l, tyD_f, truD_n, truD_b, truD_i, truD_t, truD_l, asB_b, asI_i, asL_l, isL_l, isL_t, isL_i, isL_b, isL_n, itD_l, itD_t, itD_f, fApp_ap, fExt_ap, ex_some, onS_ap, ite_t, ite_f, bodyD_ap, ioD_c, start_ap, isi_int_NoneType, isi_int_bool, isi_int_int, isi_int_str, isi_int_tuple, isi_int_list, isi_int_dict, isi_bool_NoneType, isi_bool_bool, isi_bool_int, isi_bool_str, isi_bool_tuple, isi_bool_list, isi_bool_dict, isi_str_NoneType, isi_str_bool, isi_str_int, isi_str_str, isi_str_tuple, isi_str_list, isi_str_dict, isi_list_NoneType, isi_list_bool, isi_list_int, isi_list_str, isi_list_tuple, isi_list_list, isi_list_dict, isi_tuple_NoneType, isi_tuple_bool, isi_tuple_int, isi_tuple_str, isi_tuple_tuple, isi_tuple_list, isi_tuple_dict, isi_dict_NoneType, isi_dict_bool, isi_dict_int, isi_dict_str, isi_dict_tuple, isi_dict_list, isi_dict_dict, List.map_cons, List.map_nil, List.cons_append, List.nil_append, List.length_cons, List.length_nil, List.replicate_succ, List.replicate_zero, Nat.reduceAdd, Nat.reduceSub, Nat.zero_add, true_and, and_true, Bool.not_true, Bool.not_false, Bool.true_or, Bool.or_true, Bool.false_or, Bool.or_false, if_true, if_false, Bool.false_eq_true])
    refine ⟨small_z (by decide), by decide, by decide, ?_⟩
    rw [eqD_nil]
    (try simp only [wC_ap, wSetI_ap, wExpr_ap, wRet_ap, wRetN_ap, wRet0_ap, wIf_ap, wFor_ap, wWhile_ap, wBreak_ap, wCont_ap, wNever_ap, wPick_ap, wCallL_ap, wOp_ap, wIxO_ap, wNoPart_ap, wPart_ap, wSl_ap, wUn_ap, wTest_ap, wChain_ap, wTru_ap, wNotT_ap, wAndT_ap, wOrT_ap, wAnd_ap, wOr_ap, wNot_ap, wIfE_ap, wNil_ap, wCons_ap, wTup_ap, wLst_ap, wCall_ap, wCall0_ap, wCallIo_ap, wYes_ap, wGn_ap, wSr_ap, wEn_ap, wZp_ap, wRg1_ap, wRg2_ap, wLc_ap, wMeth_ap, wMeth0_ap, wNext_ap, wSeq_ap, wAsg_ap, wSet_ap, wV_ap, wPar_ap, par2_ap, wGnil_ap, wGcons_ap, wGtup_ap, sl_z, sl_s, set_z, set_s, wipe_z, wipe_s, rest_z, rest_s, oAdd_i, oAdd_t, oAdd_l, oAdd_s, oSub_i, oMul_i, oMul_t, oII_i, oII0_i, oIx_l, oIx_t, oIx_f, oIsN_n, oNotN_n, oLen_l, oLen_t, oLen_f, oInt_i, oInt_b, oI1_i, oNeg_i, oList_l, oList_t, oTuple_l, oTuple_t, oBs_l, oSl_l, oSl_t, oIsi_ap, oIsi2_ap, tyD_n, tyD_b, tyD_i, tyD_s, tyD_t, tyD_l, tyD_f, truD_n, truD_b, truD_i, truD_t, truD_l, asB_b, asI_i, asL_l, isL_l, isL_t, isL_i, isL_b, isL_n, itD_l, itD_t, itD_f, fApp_ap, fExt_ap, ex_some, onS_ap, ite_t, ite_f, bodyD_ap, ioD_c, start_ap, isi_int_NoneType, isi_int_bool, isi_int_int, isi_int_str, isi_int_tuple, isi_int_list, isi_int_dict, isi_bool_NoneType, isi_bool_bool, isi_bool_int, isi_bool_str, isi_bool_tuple, isi_bool_list, isi_bool_dict, isi_str_NoneType, isi_str_bool, isi_str_int, isi_str_str, isi_str_tuple, isi_str_list, isi_str_dict, isi_list_NoneType, isi_list_bool, isi_list_int, isi_list_str, isi_list_tuple, isi_list_list, isi_list_dict, isi_tuple_NoneType, isi_tuple_bool, isi_tuple_int, isi_tuple_str, isi_tuple_tuple, isi_tuple_list, isi_tuple_dict, isi_dict_NoneType, isi_dict_bool, isi_dict_int, isi_dict_str, isi_dict_tuple, isi_dict_list, isi_dict_dict, List.map_cons, List.map_nil, List.cons_append, List.nil_append, List.length_cons, List.length_nil, List.replicate_succ, List.replicate_zero, Nat.reduceAdd, Nat.reduceSub, Nat.zero_add, true_and, and_true, Bool.not_true, Bool.not_false, Bool.true_or, Bool.or_true, Bool.false_or, Bool.or_false, if_true, if_false, Bool.false_eq_true, List.isEmpty_nil])
    refine ⟨line (by rw [List.length_map]; omega), ?_⟩
    rw [tyD_sq]
    (try simp only [wC_ap, wSetI_ap, wExpr_ap, wRet_ap, wRetN_ap, wRet0_ap, wIf_ap, wFor_ap, wWhile_ap, wBreak_ap, wCont_ap, wNever_ap, wPick_ap, wCallL_ap, wOp_ap, wIxO_ap, wNoPart_ap, wPart_ap, wSl_ap, wUn_ap, wTest_ap, wChain_ap, wTru_ap, wNotT_ap, wAndT_ap, wOrT_ap, wAnd_ap, wOr_ap, wNot_ap, wIfE_ap, wNil_ap, wCons_ap, wTup_ap, wLst_ap, wCall_ap, wCall0_ap, wCallIo_ap, wYes_ap, wGn_ap, wSr_ap, wEn_ap, wZp_ap, wRg1_ap, wRg2_ap, wLc_ap, wMeth_ap, wMeth0_ap, wNext_ap, wSeq_ap, wAsg_ap, wSet_ap, wV_ap, wPar_ap, par2_ap, wGnil_ap, wGcons_ap, wGtup_ap, sl_z, sl_s, set_z, set_s, wipe_z, wipe_s, rest_z, rest_s, oAdd_i, oAdd_t, oAdd_l, oAdd_s, oSub_i, oMul_i, oMul_t, oII_i, oII0_i, oIx_l, oIx_t, oIx_f, oIsN_n, oNotN_n, oLen_l, oLen_t, oLen_f, oInt_i, oInt_b, oI1_i, oNeg_i, oList_l, oList_t, oTuple_l, oTuple_t, oBs_l, oSl_l, oSl_t, oIsi_ap, oIsi2_ap, tyD_n, tyD_b, tyD_i, tyD_s, tyD_t, tyD_l, tyD_f, truD_n, truD_b, truD_i, truD_t, truD_l, asB_b, asI_i, asL_l, isL_l, isL_t, isL_i, isL_b, isL_n, itD_l, itD_t, itD_f, fApp_ap, fExt_ap, ex_some, onS_ap, ite_t, ite_f, bodyD_ap, ioD_c, start_ap, isi_int_NoneType, isi_int_bool, isi_int_int, isi_int_str, isi_int_tuple, isi_int_list, isi_int_dict, isi_bool_NoneType, isi_bool_bool, isi_bool_int, isi_bool_str, isi_bool_tuple, isi_bool_list, isi_bool_dict, isi_str_NoneType, isi_str_bool, isi_str_int, isi_str_str, isi_str_tuple, isi_str_list, isi_str_dict, isi_list_NoneType, isi_list_bool, isi_list_int, isi_list_str, isi_list_tuple, isi_list_list, isi_list_dict, isi_tuple_NoneType, isi_tuple_bool, isi_tuple_int, isi_tuple_str, isi_tuple_tuple, isi_tuple_list, isi_tuple_dict, isi_dict_NoneType, isi_dict_bool, isi_dict_int, isi_dict_str, isi_dict_tuple, isi_dict_list, isi_dict_dict, List.map_cons, List.map_nil, List.cons_append, List.nil_append, List.length_cons, List.length_nil, List.replicate_succ, List.replicate_zero, Nat.reduceAdd, Nat.reduceSub, Nat.zero_add, true_and, and_true, Bool.not_true, Bool.not_false, Bool.true_or, Bool.or_true, Bool.false_or, Bool.or_false, if_true, if_false, Bool.false_eq_true, isi_sq])
    have hpos : 0 < ss.length := by
      cases ss with
      | nil => exact absurd rfl p.ne
      | cons a r => simp
    have hix0 : atI (ss.map tI) 0 = some (tI (ss.getD 0 [])) := ix_sums (i := 0) hpos
    have m0 := getD_mem hpos
    have hsl0 : ∀ P : D → Prop, oSl none (some (-1)) (tI (ss.getD 0 [])) P = P (tI (ss.getD 0 []).dropLast) := fun P => by
      have hcut : DL.cutD (((ss.getD 0 []).dropLast ++ [(ss.getD 0 []).getLastD 0]).map D.int) none (some (-1)) = (ss.getD 0 []).dropLast.map D.int := by rw [List.map_append]; exact cut_m1 _ _
      rw [split_last (p.pl m0).ne] at hcut
      unfold tI
      rw [oSl_t, hcut]
    have hdl : (ss.getD 0 []).dropLast.length = n := by rw [List.length_dropLast, p.len _ m0]; omega
    cases b with
    | false =>
      (try simp only [wC_ap, wSetI_ap, wExpr_ap, wRet_ap, wRetN_ap, wRet0_ap, wIf_ap, wFor_ap, wWhile_ap, wBreak_ap, wCont_ap, wNever_ap, wPick_ap, wCallL_ap, wOp_ap, wIxO_ap, wNoPart_ap, wPart_ap, wSl_ap, wUn_ap, wTest_ap, wChain_ap, wTru_ap, wNotT_ap, wAndT_ap, wOrT_ap, wAnd_ap, wOr_ap, wNot_ap, wIfE_ap, wNil_ap, wCons_ap, wTup_ap, wLst_ap, wCall_ap, wCall0_ap, wCallIo_ap, wYes_ap, wGn_ap, wSr_ap, wEn_ap, wZp_ap, wRg1_ap, wRg2_ap, wLc_ap, wMeth_ap, wMeth0_ap, wNext_ap, wSeq_ap, wAsg_ap, wSet_ap, wV_ap, wPar_ap, par2_ap, wGnil_ap, wGcons_ap, wGtup_ap, sl_z, sl_s, set_z, set_s, wipe_z, wipe_s, rest_z, rest_s, oAdd_i, oAdd_t, oAdd_l, oAdd_s, oSub_i, oMul_i, oMul_t, oII_i, oII0_i, oIx_l, oIx_t, oIx_f, oIsN_n, oNotN_n, oLen_l, oLen_t, oLen_f, oInt_i, oInt_b, oI1_i, oNeg_i, oList_l, oList_t, oTuple_l, oTuple_t, oBs_l, oSl_l, oSl_t, oIsi_ap, oIsi2_ap, tyD_n, tyD_b, tyD_i, tyD_s, tyD_t, tyD_l, tyD_f, truD_n, truD_b, truD_i, truD_t, truD_l, asB_b, asI_i, asL_l, isL_l, isL_t, isL_i, isL_b, isL_n, itD_l, itD_t, itD_f, fApp_ap, fExt_ap, ex_some, onS_ap, ite_t, ite_f, bodyD_ap, ioD_c, start_ap, isi_int_NoneType, isi_int_bool, isi_int_int, isi_int_str, isi_int_tuple, isi_int_list, isi_int_dict, isi_bool_NoneType, isi_bool_bool, isi_bool_int, isi_bool_str, isi_bool_tuple, isi_bool_list, isi_bool_dict, isi_str_NoneType, isi_str_bool, isi_str_int, isi_str_str, isi_str_tuple, isi_str_list, isi_str_dict, isi_list_NoneType, isi_list_bool, isi_list_int, isi_list_str, isi_list_tuple, isi_list_list, isi_list_dict, isi_tuple_NoneType, isi_tuple_bool, isi_tuple_int, isi_tuple_str, isi_tuple_tuple, isi_tuple_list, isi_tuple_dict, isi_dict_NoneType, isi_dict_bool, isi_dict_int, isi_dict_str, isi_dict_tuple, isi_dict_list, isi_dict_dict, List.map_cons, List.map_nil, List.cons_append, List.nil_append, List.length_cons, List.length_nil, List.replicate_succ, List.replicate_zero, Nat.reduceAdd, Nat.reduceSub, Nat.zero_add, true_and, and_true, Bool.not_true, Bool.not_false, Bool.true_or, Bool.or_true, Bool.false_or, Bool.or_false, if_true, if_false, Bool.false_eq_true])

      refine ⟨(true, ss, n, at_), rfl, p, ?_⟩
      rintro r c' rfl
      refine ⟨ro, ro, ?_⟩
      rw [eqD_self ro]
      (try simp only [wC_ap, wSetI_ap, wExpr_ap, wRet_ap, wRetN_ap, wRet0_ap, wIf_ap, wFor_ap, wWhile_ap, wBreak_ap, wCont_ap, wNever_ap, wPick_ap, wCallL_ap, wOp_ap, wIxO_ap, wNoPart_ap, wPart_ap, wSl_ap, wUn_ap, wTest_ap, wChain_ap, wTru_ap, wNotT_ap, wAndT_ap, wOrT_ap, wAnd_ap, wOr_ap, wNot_ap, wIfE_ap, wNil_ap, wCons_ap, wTup_ap, wLst_ap, wCall_ap, wCall0_ap, wCallIo_ap, wYes_ap, wGn_ap, wSr_ap, wEn_ap, wZp_ap, wRg1_ap, wRg2_ap, wLc_ap, wMeth_ap, wMeth0_ap, wNext_ap, wSeq_ap, wAsg_ap, wSet_ap, wV_ap, wPar_ap, par2_ap, wGnil_ap, wGcons_ap, wGtup_ap, sl_z, sl_s, set_z, set_s, wipe_z, wipe_s, rest_z, rest_s, oAdd_i, oAdd_t, oAdd_l, oAdd_s, oSub_i, oMul_i, oMul_t, oII_i, oII0_i, oIx_l, oIx_t, oIx_f, oIsN_n, oNotN_n, oLen_l, oLen_t, oLen_f, oInt_i, oInt_b, oI1_i, oNeg_i, oList_l, oList_t, oTuple_l, oTuple_t, oBs_l, oSl_l, oSl_t, oIsi_ap, oIsi2_ap, tyD_n, tyD_b, tyD_i, tyD_s, tyD_t, tyD_l, tyD_f, truD_n, truD_b, truD_i, truD_t, truD_l, asB_b, asI_i, asL_l, isL_l, isL_t, isL_i, isL_b, isL_n, itD_l, itD_t, itD_f, fApp_ap, fExt_ap, ex_some, onS_ap, ite_t, ite_f, bodyD_ap, ioD_c, start_ap, isi_int_NoneType, isi_int_bool, isi_int_int, isi_int_str, isi_int_tuple, isi_int_list, isi_int_dict, isi_bool_NoneType, isi_bool_bool, isi_bool_int, isi_bool_str, isi_bool_tuple, isi_bool_list, isi_bool_dict, isi_str_NoneType, isi_str_bool, isi_str_int, isi_str_str, isi_str_tuple, isi_str_list, isi_str_dict, isi_list_NoneType, isi_list_bool, isi_list_int, isi_list_str, isi_list_tuple, isi_list_list, isi_list_dict, isi_tuple_NoneType, isi_tuple_bool, isi_tuple_int, isi_tuple_str, isi_tuple_tuple, isi_tuple_list, isi_tuple_dict, isi_dict_NoneType, isi_dict_bool, isi_dict_int, isi_dict_str, isi_dict_tuple, isi_dict_list, isi_dict_dict, List.map_cons, List.map_nil, List.cons_append, List.nil_append, List.length_cons, List.length_nil, List.replicate_succ, List.replicate_zero, Nat.reduceAdd, Nat.reduceSub, Nat.zero_add, true_and, and_true, Bool.not_true, Bool.not_false, Bool.true_or, Bool.or_true, Bool.false_or, Bool.or_false, if_true, if_false, Bool.false_eq_true])
      refine ⟨⟨by decide, by decide⟩, ?_⟩
      refine for_inv (fun pre ε => ∃ b0 b1 b2 o7 o8, ε = [some (.lst [.int b0, .int b1, .int b2]), some (.lst (ss.map tI)), some (.int at_), some (.lst ((rowsOf ss at_).map rowD)), some (.lst prs), some (sq false (ss.map tI)), some (.lst ((rowsOf ss at_).map rowD ++ [D.non]).reverse), o7, o8, none, none] ∧ 0 ≤ b1 ∧ b1 < 2147483648) ?_ ?_ ⟨a0, a1, a2, none, none, rfl, ha1, ha2⟩
      · rintro pre d r ε e ⟨b0, b1, b2, o7, o8, rfl, hb1, hb2⟩ N hN
        (try simp only [wC_ap, wSetI_ap, wExpr_ap, wRet_ap, wRetN_ap, wRet0_ap, wIf_ap, wFor_ap, wWhile_ap, wBreak_ap, wCont_ap, wNever_ap, wPick_ap, wCallL_ap, wOp_ap, wIxO_ap, wNoPart_ap, wPart_ap, wSl_ap, wUn_ap, wTest_ap, wChain_ap, wTru_ap, wNotT_ap, wAndT_ap, wOrT_ap, wAnd_ap, wOr_ap, wNot_ap, wIfE_ap, wNil_ap, wCons_ap, wTup_ap, wLst_ap, wCall_ap, wCall0_ap, wCallIo_ap, wYes_ap, wGn_ap, wSr_ap, wEn_ap, wZp_ap, wRg1_ap, wRg2_ap, wLc_ap, wMeth_ap, wMeth0_ap, wNext_ap, wSeq_ap, wAsg_ap, wSet_ap, wV_ap, wPar_ap, par2_ap, wGnil_ap, wGcons_ap, wGtup_ap, sl_z, sl_s, set_z, set_s, wipe_z, wipe_s, rest_z, rest_s, oAdd_i, oAdd_t, oAdd_l, oAdd_s, oSub_i, oMul_i, oMul_t, oII_i, oII0_i, oIx_l, oIx_t, oIx_f, oIsN_n, oNotN_n, oLen_l, oLen_t, oLen_f, oInt_i, oInt_b, oI1_i, oNeg_i, oList_l, oList_t, oTuple_l, oTuple_t, oBs_l, oSl_l, oSl_t, oIsi_ap, oIsi2_ap, tyD_n, tyD_b, tyD_i, tyD_s, tyD_t, tyD_l, tyD_f, truD_n, truD_b, truD_i, truD_t, truD_l, asB_b, asI_i, asL_l, isL_l, isL_t, isL_i, isL_b, isL_n, itD_l, itD_t, itD_f, fApp_ap, fExt_ap, ex_some, onS_ap, ite_t, ite_f, bodyD_ap, ioD_c, start_ap, isi_int_NoneType, isi_int_bool, isi_int_int, isi_int_str, isi_int_tuple, isi_int_list, isi_int_dict, isi_bool_NoneType, isi_bool_bool, isi_bool_int, isi_bool_str, isi_bool_tuple, isi_bool_list, isi_bool_dict, isi_str_NoneType, isi_str_bool, isi_str_int, isi_str_str, isi_str_tuple, isi_str_list, isi_str_dict, isi_list_NoneType, isi_list_bool, isi_list_int, isi_list_str, isi_list_tuple, isi_list_list, isi_list_dict, isi_tuple_NoneType, isi_tuple_bool, isi_tuple_int, isi_tuple_str, isi_tuple_tuple, isi_tuple_list, isi_tuple_dict, isi_dict_NoneType, isi_dict_bool, isi_dict_int, isi_dict_str, isi_dict_tuple, isi_dict_list, isi_dict_dict, List.map_cons, List.map_nil, List.cons_append, List.nil_append, List.length_cons, List.length_nil, List.replicate_succ, List.replicate_zero, Nat.reduceAdd, Nat.reduceSub, Nat.zero_add, true_and, and_true, Bool.not_true, Bool.not_false, Bool.true_or, Bool.or_true, Bool.false_or, Bool.or_false, if_true, if_false, Bool.false_eq_true, hix0])
        rw [hsl0]
        (try simp only [wC_ap, wSetI_ap, wExpr_ap, wRet_ap, wRetN_ap, wRet0_ap, wIf_ap, wFor_ap, wWhile_ap, wBreak_ap, wCont_ap, wNever_ap, wPick_ap, wCallL_ap, wOp_ap, wIxO_ap, wNoPart_ap, wPart_ap, wSl_ap, wUn_ap, wTest_ap, wChain_ap, wTru_ap, wNotT_ap, wAndT_ap, wOrT_ap, wAnd_ap, wOr_ap, wNot_ap, wIfE_ap, wNil_ap, wCons_ap, wTup_ap, wLst_ap, wCall_ap, wCall0_ap, wCallIo_ap, wYes_ap, wGn_ap, wSr_ap, wEn_ap, wZp_ap, wRg1_ap, wRg2_ap, wLc_ap, wMeth_ap, wMeth0_ap, wNext_ap, wSeq_ap, wAsg_ap, wSet_ap, wV_ap, wPar_ap, par2_ap, wGnil_ap, wGcons_ap, wGtup_ap, sl_z, sl_s, set_z, set_s, wipe_z, wipe_s, rest_z, rest_s, oAdd_i, oAdd_t, oAdd_l, oAdd_s, oSub_i, oMul_i, oMul_t, oII_i, oII0_i, oIx_l, oIx_t, oIx_f, oIsN_n, oNotN_n, oLen_l, oLen_t, oLen_f, oInt_i, oInt_b, oI1_i, oNeg_i, oList_l, oList_t, oTuple_l, oTuple_t, oBs_l, oSl_l, oSl_t, oIsi_ap, oIsi2_ap, tyD_n, tyD_b, tyD_i, tyD_s, tyD_t, tyD_l, tyD_f, truD_n, truD_b, truD_i, truD_t, truD_l, asB_b, asI_i, asL_l, isL_l, isL_t, isL_i, isL_b, isL_n, itD_l, itD_t, itD_f, fApp_ap, fExt_ap, ex_some, onS_ap, ite_t, ite_f, bodyD_ap, ioD_c, start_ap, isi_int_NoneType, isi_int_bool, isi_int_int, isi_int_str, isi_int_tuple, isi_int_list, isi_int_dict, isi_bool_NoneType, isi_bool_bool, isi_bool_int, isi_bool_str, isi_bool_tuple, isi_bool_list, isi_bool_dict, isi_str_NoneType, isi_str_bool, isi_str_int, isi_str_str, isi_str_tuple, isi_str_list, isi_str_dict, isi_list_NoneType, isi_list_bool, isi_list_int, isi_list_str, isi_list_tuple, isi_list_list, isi_list_dict, isi_tuple_NoneType, isi_tuple_bool, isi_tuple_int, isi_tuple_str, isi_tuple_tuple, isi_tuple_list, isi_tuple_dict, isi_dict_NoneType, isi_dict_bool, isi_dict_int, isi_dict_str, isi_dict_tuple, isi_dict_list, isi_dict_dict, List.map_cons, List.map_nil, List.cons_append, List.nil_append, List.length_cons, List.length_nil, List.replicate_succ, List.replicate_zero, Nat.reduceAdd, Nat.reduceSub, Nat.zero_add, true_and, and_true, Bool.not_true, Bool.not_false, Bool.true_or, Bool.or_true, Bool.false_or, Bool.or_false, if_true, if_false, Bool.false_eq_true, itD_tI])
        refine ⟨by rw [List.length_map]; exact small_z (by omega), ?_⟩
        refine lc_inv (fun pre' acc ε => ∃ b0 b1 b2 xs, acc = List.map D.int xs ∧ ε = [some (.lst [.int b0, .int b1, .int b2]), some (.lst (ss.map tI)), some (.int at_), some (.lst ((rowsOf ss at_).map rowD)), some (.lst prs), some (sq false (ss.map tI)), some (.lst ((rowsOf ss at_).map rowD ++ [D.non]).reverse), some d, o8, none, none] ∧ 0 ≤ b1 ∧ b1 < 2147483648 ∧ xs.length = pre'.length) ?_ ?_ ⟨b0, b1, b2, [], rfl, rfl, hb1, hb2, rfl⟩
        · rintro pre' d' r' acc ε e' ⟨b0, b1, b2, xs, rfl, rfl, hb1, hb2, hxl⟩ K1 K0 h1 h0
          (try simp only [wC_ap, wSetI_ap, wExpr_ap, wRet_ap, wRetN_ap, wRet0_ap, wIf_ap, wFor_ap, wWhile_ap, wBreak_ap, wCont_ap, wNever_ap, wPick_ap, wCallL_ap, wOp_ap, wIxO_ap, wNoPart_ap, wPart_ap, wSl_ap, wUn_ap, wTest_ap, wChain_ap, wTru_ap, wNotT_ap, wAndT_ap, wOrT_ap, wAnd_ap, wOr_ap, wNot_ap, wIfE_ap, wNil_ap, wCons_ap, wTup_ap, wLst_ap, wCall_ap, wCall0_ap, wCallIo_ap, wYes_ap, wGn_ap, wSr_ap, wEn_ap, wZp_ap, wRg1_ap, wRg2_ap, wLc_ap, wMeth_ap, wMeth0_ap, wNext_ap, wSeq_ap, wAsg_ap, wSet_ap, wV_ap, wPar_ap, par2_ap, wGnil_ap, wGcons_ap, wGtup_ap, sl_z, sl_s, set_z, set_s, wipe_z, wipe_s, rest_z, rest_s, oAdd_i, oAdd_t, oAdd_l, oAdd_s, oSub_i, oMul_i, oMul_t, oII_i, oII0_i, oIx_l, oIx_t, oIx_f, oIsN_n, oNotN_n, oLen_l, oLen_t, oLen_f, oInt_i, oInt_b, oI1_i, oNeg_i, oList_l, oList_t, oTuple_l, oTuple_t, oBs_l, oSl_l, oSl_t, oIsi_ap, oIsi2_ap, tyD_n, tyD_b, tyD_i, tyD_s, tyD_t, tyD_l, tyD_f, truD_n, truD_b, truD_i, truD_t, truD_l, asB_b, asI_i, asL_l, isL_l, isL_t, isL_i, isL_b, isL_n, itD_l, itD_t, itD_f, fApp_ap, fExt_ap, ex_some, onS_ap, ite_t, ite_f, bodyD_ap, ioD_c, start_ap, isi_int_NoneType, isi_int_bool, isi_int_int, isi_int_str, isi_int_tuple, isi_int_list, isi_int_dict, isi_bool_NoneType, isi_bool_bool, isi_bool_int, isi_bool_str, isi_bool_tuple, isi_bool_list, isi_bool_dict, isi_str_NoneType, isi_str_bool, isi_str_int, isi_str_str, isi_str_tuple, isi_str_list, isi_str_dict, isi_list_NoneType, isi_list_bool, isi_list_int, isi_list_str, isi_list_tuple, isi_list_list, isi_list_dict, isi_tuple_NoneType, isi_tuple_bool, isi_tuple_int, isi_tuple_str, isi_tuple_tuple, isi_tuple_list, isi_tuple_dict, isi_dict_NoneType, isi_dict_bool, isi_dict_int, isi_dict_str, isi_dict_tuple, isi_dict_list, isi_dict_dict, List.map_cons, List.map_nil, List.cons_append, List.nil_append, List.length_cons, List.length_nil, List.replicate_succ, List.replicate_zero, Nat.reduceAdd, Nat.reduceSub, Nat.zero_add, true_and, and_true, Bool.not_true, Bool.not_false, Bool.true_or, Bool.or_true, Bool.false_or, Bool.or_false, if_true, if_false, Bool.false_eq_true])
          refine ⟨(.lst [.int b0, .int b1, .int b2], 31), rfl, tkp hb1 hb2 (by decide) (by decide), ?_⟩
          rintro r c' ⟨⟨z, rfl, hz⟩, y0, y1, y2, rfl, hy1, hy2⟩
          (try simp only [wC_ap, wSetI_ap, wExpr_ap, wRet_ap, wRetN_ap, wRet0_ap, wIf_ap, wFor_ap, wWhile_ap, wBreak_ap, wCont_ap, wNever_ap, wPick_ap, wCallL_ap, wOp_ap, wIxO_ap, wNoPart_ap, wPart_ap, wSl_ap, wUn_ap, wTest_ap, wChain_ap, wTru_ap, wNotT_ap, wAndT_ap, wOrT_ap, wAnd_ap, wOr_ap, wNot_ap, wIfE_ap, wNil_ap, wCons_ap, wTup_ap, wLst_ap, wCall_ap, wCall0_ap, wCallIo_ap, wYes_ap, wGn_ap, wSr_ap, wEn_ap, wZp_ap, wRg1_ap, wRg2_ap, wLc_ap, wMeth_ap, wMeth0_ap, wNext_ap, wSeq_ap, wAsg_ap, wSet_ap, wV_ap, wPar_ap, par2_ap, wGnil_ap, wGcons_ap, wGtup_ap, sl_z, sl_s, set_z, set_s, wipe_z, wipe_s, rest_z, rest_s, oAdd_i, oAdd_t, oAdd_l, oAdd_s, oSub_i, oMul_i, oMul_t, oII_i, oII0_i, oIx_l, oIx_t, oIx_f, oIsN_n, oNotN_n, oLen_l, oLen_t, oLen_f, oInt_i, oInt_b, oI1_i, oNeg_i, oList_l, oList_t, oTuple_l, oTuple_t, oBs_l, oSl_l, oSl_t, oIsi_ap, oIsi2_ap, tyD_n, tyD_b, tyD_i, tyD_s, tyD_t, tyD_l, tyD_f, truD_n, truD_b, truD_i, truD_t, truD_l, asB_b, asI_i, asL_l, isL_l, isL_t, isL_i, isL_b, isL_n, itD_l, itD_t, itD_f, fApp_ap, fExt_ap, ex_some, onS_ap, ite_t, ite_f, bodyD_ap, ioD_c, start_ap, isi_int_NoneType, isi_int_bool, isi_int_int, isi_int_str, isi_int_tuple, isi_int_list, isi_int_dict, isi_bool_NoneType, isi_bool_bool, isi_bool_int, isi_bool_str, isi_bool_tuple, isi_bool_list, isi_bool_dict, isi_str_NoneType, isi_str_bool, isi_str_int, isi_str_str, isi_str_tuple, isi_str_list, isi_str_dict, isi_list_NoneType, isi_list_bool, isi_list_int, isi_list_str, isi_list_tuple, isi_list_list, isi_list_dict, isi_tuple_NoneType, isi_tuple_bool, isi_tuple_int, isi_tuple_str, isi_tuple_tuple, isi_tuple_list, isi_tuple_dict, isi_dict_NoneType, isi_dict_bool, isi_dict_int, isi_dict_str, isi_dict_tuple, isi_dict_list, isi_dict_dict, List.map_cons, List.map_nil, List.cons_append, List.nil_append, List.length_cons, List.length_nil, List.replicate_succ, List.replicate_zero, Nat.reduceAdd, Nat.reduceSub, Nat.zero_add, true_and, and_true, Bool.not_true, Bool.not_false, Bool.true_or, Bool.or_true, Bool.false_or, Bool.or_false, if_true, if_false, Bool.false_eq_true])
          exact h1 _ _ ⟨y0, y1, y2, xs ++ [(z : Int) - 15], by simp, rfl, hy1, hy2, by simp [hxl]⟩
        · rintro acc ε ⟨v0, v1, v2, xs, rfl, rfl, hv1, hv2, hxl⟩
          have hxn : xs.length = n := by rw [hxl, List.length_map]; exact hdl
          (try simp only [wC_ap, wSetI_ap, wExpr_ap, wRet_ap, wRetN_ap, wRet0_ap, wIf_ap, wFor_ap, wWhile_ap, wBreak_ap, wCont_ap, wNever_ap, wPick_ap, wCallL_ap, wOp_ap, wIxO_ap, wNoPart_ap, wPart_ap, wSl_ap, wUn_ap, wTest_ap, wChain_ap, wTru_ap, wNotT_ap, wAndT_ap, wOrT_ap, wAnd_ap, wOr_ap, wNot_ap, wIfE_ap, wNil_ap, wCons_ap, wTup_ap, wLst_ap, wCall_ap, wCall0_ap, wCallIo_ap, wYes_ap, wGn_ap, wSr_ap, wEn_ap, wZp_ap, wRg1_ap, wRg2_ap, wLc_ap, wMeth_ap, wMeth0_ap, wNext_ap, wSeq_ap, wAsg_ap, wSet_ap, wV_ap, wPar_ap, par2_ap, wGnil_ap, wGcons_ap, wGtup_ap, sl_z, sl_s, set_z, set_s, wipe_z, wipe_s, rest_z, rest_s, oAdd_i, oAdd_t, oAdd_l, oAdd_s, oSub_i, oMul_i, oMul_t, oII_i, oII0_i, oIx_l, oIx_t, oIx_f, oIsN_n, oNotN_n, oLen_l, oLen_t, oLen_f, oInt_i, oInt_b, oI1_i, oNeg_i, oList_l, oList_t, oTuple_l, oTuple_t, oBs_l, oSl_l, oSl_t, oIsi_ap, oIsi2_ap, tyD_n, tyD_b, tyD_i, tyD_s, tyD_t, tyD_l, tyD_f, truD_n, truD_b, truD_i, truD_t, truD_l, asB_b, asI_i, asL_l, isL_l, isL_t, isL_i, isL_b, isL_n, itD_l, itD_t, itD_f, fApp_ap, fExt_ap, ex_some, onS_ap, ite_t, ite_f, bodyD_ap, ioD_c, start_ap, isi_int_NoneType, isi_int_bool, isi_int_int, isi_int_str, isi_int_tuple, isi_int_list, isi_int_dict, isi_bool_NoneType, isi_bool_bool, isi_bool_int, isi_bool_str, isi_bool_tuple, isi_bool_list, isi_bool_dict, isi_str_NoneType, isi_str_bool, isi_str_int, isi_str_str, isi_str_tuple, isi_str_list, isi_str_dict, isi_list_NoneType, isi_list_bool, isi_list_int, isi_list_str, isi_list_tuple, isi_list_list, isi_list_dict, isi_tuple_NoneType, isi_tuple_bool, isi_tuple_int, isi_tuple_str, isi_tuple_tuple, isi_tuple_list, isi_tuple_dict, isi_dict_NoneType, isi_dict_bool, isi_dict_int, isi_dict_str, isi_dict_tuple, isi_dict_list, isi_dict_dict, List.map_cons, List.map_nil, List.cons_append, List.nil_append, List.length_cons, List.length_nil, List.replicate_succ, List.replicate_zero, Nat.reduceAdd, Nat.reduceSub, Nat.zero_add, true_and, and_true, Bool.not_true, Bool.not_false, Bool.true_or, Bool.or_true, Bool.false_or, Bool.or_false, if_true, if_false, Bool.false_eq_true])
          refine ⟨(ss, xs), rfl, ⟨by show ss.length ≤ 1000000; omega, by show xs.length ≤ 100; omega, fun s hs => ⟨by show s.length = xs.length + 1; rw [p.len s hs, hxn], (p.pl hs).s8⟩⟩, ?_⟩
          rintro r c' rfl
          (try simp only [wC_ap, wSetI_ap, wExpr_ap, wRet_ap, wRetN_ap, wRet0_ap, wIf_ap, wFor_ap, wWhile_ap, wBreak_ap, wCont_ap, wNever_ap, wPick_ap, wCallL_ap, wOp_ap, wIxO_ap, wNoPart_ap, wPart_ap, wSl_ap, wUn_ap, wTest_ap, wChain_ap, wTru_ap, wNotT_ap, wAndT_ap, wOrT_ap, wAnd_ap, wOr_ap, wNot_ap, wIfE_ap, wNil_ap, wCons_ap, wTup_ap, wLst_ap, wCall_ap, wCall0_ap, wCallIo_ap, wYes_ap, wGn_ap, wSr_ap, wEn_ap, wZp_ap, wRg1_ap, wRg2_ap, wLc_ap, wMeth_ap, wMeth0_ap, wNext_ap, wSeq_ap, wAsg_ap, wSet_ap, wV_ap, wPar_ap, par2_ap, wGnil_ap, wGcons_ap, wGtup_ap, sl_z, sl_s, set_z, set_s, wipe_z, wipe_s, rest_z, rest_s, oAdd_i, oAdd_t, oAdd_l, oAdd_s, oSub_i, oMul_i, oMul_t, oII_i, oII0_i, oIx_l, oIx_t, oIx_f, oIsN_n, oNotN_n, oLen_l, oLen_t, oLen_f, oInt_i, oInt_b, oI1_i, oNeg_i, oList_l, oList_t, oTuple_l, oTuple_t, oBs_l, oSl_l, oSl_t, oIsi_ap, oIsi2_ap, tyD_n, tyD_b, tyD_i, tyD_s, tyD_t, tyD_l, tyD_f, truD_n, truD_b, truD_i, truD_t, truD_l, asB_b, asI_i, asL_l, isL_l, isL_t, isL_i, isL_b, isL_n, itD_l, itD_t, itD_f, fApp_ap, fExt_ap, ex_some, onS_ap, ite_t, ite_f, bodyD_ap, ioD_c, start_ap, isi_int_NoneType, isi_int_bool, isi_int_int, isi_int_str, isi_int_tuple, isi_int_list, isi_int_dict, isi_bool_NoneType, isi_bool_bool, isi_bool_int, isi_bool_str, isi_bool_tuple, isi_bool_list, isi_bool_dict, isi_str_NoneType, isi_str_bool, isi_str_int, isi_str_str, isi_str_tuple, isi_str_list, isi_str_dict, isi_list_NoneType, isi_list_bool, isi_list_int, isi_list_str, isi_list_tuple, isi_list_list, isi_list_dict, isi_tuple_NoneType, isi_tuple_bool, isi_tuple_int, isi_tuple_str, isi_tuple_tuple, isi_tuple_list, isi_tuple_dict, isi_dict_NoneType, isi_dict_bool, isi_dict_int, isi_dict_str, isi_dict_tuple, isi_dict_list, isi_dict_dict, List.map_cons, List.map_nil, List.cons_append, List.nil_append, List.length_cons, List.length_nil, List.replicate_succ, List.replicate_zero, Nat.reduceAdd, Nat.reduceSub, Nat.zero_add, true_and, and_true, Bool.not_true, Bool.not_false, Bool.true_or, Bool.or_true, Bool.false_or, Bool.or_false, if_true, if_false, Bool.false_eq_true])
          cases hk : keptB ss xs with
          | false =>
            (try simp only [wC_ap, wSetI_ap, wExpr_ap, wRet_ap, wRetN_ap, wRet0_ap, wIf_ap, wFor_ap, wWhile_ap, wBreak_ap, wCont_ap, wNever_ap, wPick_ap, wCallL_ap, wOp_ap, wIxO_ap, wNoPart_ap, wPart_ap, wSl_ap, wUn_ap, wTest_ap, wChain_ap, wTru_ap, wNotT_ap, wAndT_ap, wOrT_ap, wAnd_ap, wOr_ap, wNot_ap, wIfE_ap, wNil_ap, wCons_ap, wTup_ap, wLst_ap, wCall_ap, wCall0_ap, wCallIo_ap, wYes_ap, wGn_ap, wSr_ap, wEn_ap, wZp_ap, wRg1_ap, wRg2_ap, wLc_ap, wMeth_ap, wMeth0_ap, wNext_ap, wSeq_ap, wAsg_ap, wSet_ap, wV_ap, wPar_ap, par2_ap, wGnil_ap, wGcons_ap, wGtup_ap, sl_z, sl_s, set_z, set_s, wipe_z, wipe_s, rest_z, rest_s, oAdd_i, oAdd_t, oAdd_l, oAdd_s, oSub_i, oMul_i, oMul_t, oII_i, oII0_i, oIx_l, oIx_t, oIx_f, oIsN_n, oNotN_n, oLen_l, oLen_t, oLen_f, oInt_i, oInt_b, oI1_i, oNeg_i, oList_l, oList_t, oTuple_l, oTuple_t, oBs_l, oSl_l, oSl_t, oIsi_ap, oIsi2_ap, tyD_n, tyD_b, tyD_i, tyD_s, tyD_t, tyD_l, tyD_f, truD_n, truD_b, truD_i, truD_t, truD_l, asB_b, asI_i, asL_l, isL_l, isL_t, isL_i, isL_b, isL_n, itD_l, itD_t, itD_f, fApp_ap, fExt_ap, ex_some, onS_ap, ite_t, ite_f, bodyD_ap, ioD_c, start_ap, isi_int_NoneType, isi_int_bool, isi_int_int, isi_int_str, isi_int_tuple, isi_int_list, isi_int_dict, isi_bool_NoneType, isi_bool_bool, isi_bool_int, isi_bool_str, isi_bool_tuple, isi_bool_list, isi_bool_dict, isi_str_NoneType, isi_str_bool, isi_str_int, isi_str_str, isi_str_tuple, isi_str_list, isi_str_dict, isi_list_NoneType, isi_list_bool, isi_list_int, isi_list_str, isi_list_tuple, isi_list_list, isi_list_dict, isi_tuple_NoneType, isi_tuple_bool, isi_tuple_int, isi_tuple_str, isi_tuple_tuple, isi_tuple_list, isi_tuple_dict, isi_dict_NoneType, isi_dict_bool, isi_dict_int, isi_dict_str, isi_dict_tuple, isi_dict_list, isi_dict_dict, List.map_cons, List.map_nil, List.cons_append, List.nil_append, List.length_cons, List.length_nil, List.replicate_succ, List.replicate_zero, Nat.reduceAdd, Nat.reduceSub, Nat.zero_add, true_and, and_true, Bool.not_true, Bool.not_false, Bool.true_or, Bool.or_true, Bool.false_or, Bool.or_false, if_true, if_false, Bool.false_eq_true, hk])
            exact hN _ ⟨v0, v1, v2, some d, _, rfl, hv1, hv2⟩
          | true =>
            (try simp only [wC_ap, wSetI_ap, wExpr_ap, wRet_ap, wRetN_ap, wRet0_ap, wIf_ap, wFor_ap, wWhile_ap, wBreak_ap, wCont_ap, wNever_ap, wPick_ap, wCallL_ap, wOp_ap, wIxO_ap, wNoPart_ap, wPart_ap, wSl_ap, wUn_ap, wTest_ap, wChain_ap, wTru_ap, wNotT_ap, wAndT_ap, wOrT_ap, wAnd_ap, wOr_ap, wNot_ap, wIfE_ap, wNil_ap, wCons_ap, wTup_ap, wLst_ap, wCall_ap, wCall0_ap, wCallIo_ap, wYes_ap, wGn_ap, wSr_ap, wEn_ap, wZp_ap, wRg1_ap, wRg2_ap, wLc_ap, wMeth_ap, wMeth0_ap, wNext_ap, wSeq_ap, wAsg_ap, wSet_ap, wV_ap, wPar_ap, par2_ap, wGnil_ap, wGcons_ap, wGtup_ap, sl_z, sl_s, set_z, set_s, wipe_z, wipe_s, rest_z, rest_s, oAdd_i, oAdd_t, oAdd_l, oAdd_s, oSub_i, oMul_i, oMul_t, oII_i, oII0_i, oIx_l, oIx_t, oIx_f, oIsN_n, oNotN_n, oLen_l, oLen_t, oLen_f, oInt_i, oInt_b, oI1_i, oNeg_i, oList_l, oList_t, oTuple_l, oTuple_t, oBs_l, oSl_l, oSl_t, oIsi_ap, oIsi2_ap, tyD_n, tyD_b, tyD_i, tyD_s, tyD_t, tyD_l, tyD_f, truD_n, truD_b, truD_i, truD_t, truD_l, asB_b, asI_i, asL_l, isL_l, isL_t, isL_i, isL_b, isL_n, itD_l, itD_t, itD_f, fApp_ap, fExt_ap, ex_some, onS_ap, ite_t, ite_f, bodyD_ap, ioD_c, start_ap, isi_int_NoneType, isi_int_bool, isi_int_int, isi_int_str, isi_int_tuple, isi_int_list, isi_int_dict, isi_bool_NoneType, isi_bool_bool, isi_bool_int, isi_bool_str, isi_bool_tuple, isi_bool_list, isi_bool_dict, isi_str_NoneType, isi_str_bool, isi_str_int, isi_str_str, isi_str_tuple, isi_str_list, isi_str_dict, isi_list_NoneType, isi_list_bool, isi_list_int, isi_list_str, isi_list_tuple, isi_list_list, isi_list_dict, isi_tuple_NoneType, isi_tuple_bool, isi_tuple_int, isi_tuple_str, isi_tuple_tuple, isi_tuple_list, isi_tuple_dict, isi_dict_NoneType, isi_dict_bool, isi_dict_int, isi_dict_str, isi_dict_tuple, isi_dict_list, isi_dict_dict, List.map_cons, List.map_nil, List.cons_append, List.nil_append, List.length_cons, List.length_nil, List.replicate_succ, List.replicate_zero, Nat.reduceAdd, Nat.reduceSub, Nat.zero_add, true_and, and_true, Bool.not_true, Bool.not_false, Bool.true_or, Bool.or_true, Bool.false_or, Bool.or_false, if_true, if_false, Bool.false_eq_true, hk])
            refine ⟨by rw [List.length_map]; exact small_z (by omega), lc_map (fun d => match d with | .tup [t, _] => t | _ => .non) ?_ ?_⟩
            · intro d hd K1 h1
              obtain ⟨⟨t, m⟩, hr, rfl⟩ := List.mem_map.mp hd
              have hd' : rowD (t, m) = .tup [tI t, m.d] := rfl
              rw [hd'] at h1 ⊢
              (try simp only [wC_ap, wSetI_ap, wExpr_ap, wRet_ap, wRetN_ap, wRet0_ap, wIf_ap, wFor_ap, wWhile_ap, wBreak_ap, wCont_ap, wNever_ap, wPick_ap, wCallL_ap, wOp_ap, wIxO_ap, wNoPart_ap, wPart_ap, wSl_ap, wUn_ap, wTest_ap, wChain_ap, wTru_ap, wNotT_ap, wAndT_ap, wOrT_ap, wAnd_ap, wOr_ap, wNot_ap, wIfE_ap, wNil_ap, wCons_ap, wTup_ap, wLst_ap, wCall_ap, wCall0_ap, wCallIo_ap, wYes_ap, wGn_ap, wSr_ap, wEn_ap, wZp_ap, wRg1_ap, wRg2_ap, wLc_ap, wMeth_ap, wMeth0_ap, wNext_ap, wSeq_ap, wAsg_ap, wSet_ap, wV_ap, wPar_ap, par2_ap, wGnil_ap, wGcons_ap, wGtup_ap, sl_z, sl_s, set_z, set_s, wipe_z, wipe_s, rest_z, rest_s, oAdd_i, oAdd_t, oAdd_l, oAdd_s, oSub_i, oMul_i, oMul_t, oII_i, oII0_i, oIx_l, oIx_t, oIx_f, oIsN_n, oNotN_n, oLen_l, oLen_t, oLen_f, oInt_i, oInt_b, oI1_i, oNeg_i, oList_l, oList_t, oTuple_l, oTuple_t, oBs_l, oSl_l, oSl_t, oIsi_ap, oIsi2_ap, tyD_n, tyD_b, tyD_i, tyD_s, tyD_t, tyD_l, tyD_f, truD_n, truD_b, truD_i, truD_t, truD_l, asB_b, asI_i, asL_l, isL_l, isL_t, isL_i, isL_b, isL_n, itD_l, itD_t, itD_f, fApp_ap, fExt_ap, ex_some, onS_ap, ite_t, ite_f, bodyD_ap, ioD_c, start_ap, isi_int_NoneType, isi_int_bool, isi_int_int, isi_int_str, isi_int_tuple, isi_int_list, isi_int_dict, isi_bool_NoneType, isi_bool_bool, isi_bool_int, isi_bool_str, isi_bool_tuple, isi_bool_list, isi_bool_dict, isi_str_NoneType, isi_str_bool, isi_str_int, isi_str_str, isi_str_tuple, isi_str_list, isi_str_dict, isi_list_NoneType, isi_list_bool, isi_list_int, isi_list_str, isi_list_tuple, isi_list_list, isi_list_dict, isi_tuple_NoneType, isi_tuple_bool, isi_tuple_int, isi_tuple_str, isi_tuple_tuple, isi_tuple_list, isi_tuple_dict, isi_dict_NoneType, isi_dict_bool, isi_dict_int, isi_dict_str, isi_dict_tuple, isi_dict_list, isi_dict_dict, List.map_cons, List.map_nil, List.cons_append, List.nil_append, List.length_cons, List.length_nil, List.replicate_succ, List.replicate_zero, Nat.reduceAdd, Nat.reduceSub, Nat.zero_add, true_and, and_true, Bool.not_true, Bool.not_false, Bool.true_or, Bool.or_true, Bool.false_or, Bool.or_false, if_true, if_false, Bool.false_eq_true, atI_z])
              exact h1 _ rfl
            · have em : ((rowsOf ss at_).map rowD).map (fun d => match d with | .tup [t, _] => t | _ => .non) = ((rowsOf ss at_).map (·.1)).map tI := by
                rw [List.map_map, List.map_map]; rfl
              rw [em]
              (try simp only [wC_ap, wSetI_ap, wExpr_ap, wRet_ap, wRetN_ap, wRet0_ap, wIf_ap, wFor_ap, wWhile_ap, wBreak_ap, wCont_ap, wNever_ap, wPick_ap, wCallL_ap, wOp_ap, wIxO_ap, wNoPart_ap, wPart_ap, wSl_ap, wUn_ap, wTest_ap, wChain_ap, wTru_ap, wNotT_ap, wAndT_ap, wOrT_ap, wAnd_ap, wOr_ap, wNot_ap, wIfE_ap, wNil_ap, wCons_ap, wTup_ap, wLst_ap, wCall_ap, wCall0_ap, wCallIo_ap, wYes_ap, wGn_ap, wSr_ap, wEn_ap, wZp_ap, wRg1_ap, wRg2_ap, wLc_ap, wMeth_ap, wMeth0_ap, wNext_ap, wSeq_ap, wAsg_ap, wSet_ap, wV_ap, wPar_ap, par2_ap, wGnil_ap, wGcons_ap, wGtup_ap, sl_z, sl_s, set_z, set_s, wipe_z, wipe_s, rest_z, rest_s, oAdd_i, oAdd_t, oAdd_l, oAdd_s, oSub_i, oMul_i, oMul_t, oII_i, oII0_i, oIx_l, oIx_t, oIx_f, oIsN_n, oNotN_n, oLen_l, oLen_t, oLen_f, oInt_i, oInt_b, oI1_i, oNeg_i, oList_l, oList_t, oTuple_l, oTuple_t, oBs_l, oSl_l, oSl_t, oIsi_ap, oIsi2_ap, tyD_n, tyD_b, tyD_i, tyD_s, tyD_t, tyD_l, tyD_f, truD_n, truD_b, truD_i, truD_t, truD_l, asB_b, asI_i, asL_l, isL_l, isL_t, isL_i, isL_b, isL_n, itD_l, itD_t, itD_f, fApp_ap, fExt_ap, ex_some, onS_ap, ite_t, ite_f, bodyD_ap, ioD_c, start_ap, isi_int_NoneType, isi_int_bool, isi_int_int, isi_int_str, isi_int_tuple, isi_int_list, isi_int_dict, isi_bool_NoneType, isi_bool_bool, isi_bool_int, isi_bool_str, isi_bool_tuple, isi_bool_list, isi_bool_dict, isi_str_NoneType, isi_str_bool, isi_str_int, isi_str_str, isi_str_tuple, isi_str_list, isi_str_dict, isi_list_NoneType, isi_list_bool, isi_list_int, isi_list_str, isi_list_tuple, isi_list_list, isi_list_dict, isi_tuple_NoneType, isi_tuple_bool, isi_tuple_int, isi_tuple_str, isi_tuple_tuple, isi_tuple_list, isi_tuple_dict, isi_dict_NoneType, isi_dict_bool, isi_dict_int, isi_dict_str, isi_dict_tuple, isi_dict_list, isi_dict_dict, List.map_cons, List.map_nil, List.cons_append, List.nil_append, List.length_cons, List.length_nil, List.replicate_succ, List.replicate_zero, Nat.reduceAdd, Nat.reduceSub, Nat.zero_add, true_and, and_true, Bool.not_true, Bool.not_false, Bool.true_or, Bool.or_true, Bool.false_or, Bool.or_false, if_true, if_false, Bool.false_eq_true])
              refine ⟨((rowsOf ss at_).map (·.1), xs), rfl, ⟨by show ((rowsOf ss at_).map (·.1)).length ≤ 1000000; rw [List.length_map]; omega, by show xs.length ≤ 100; omega, fun s hs => ?_⟩, ?_⟩
              · obtain ⟨rr, hr, rfl⟩ := List.mem_map.mp hs
                obtain ⟨s0, hs0, es⟩ := rows_pl p rr hr
                rw [es]
                exact right_pre hs0 hxn
              rintro r c' rfl
              have hkr := kept_rows p hxn hk
              (try simp only [wC_ap, wSetI_ap, wExpr_ap, wRet_ap, wRetN_ap, wRet0_ap, wIf_ap, wFor_ap, wWhile_ap, wBreak_ap, wCont_ap, wNever_ap, wPick_ap, wCallL_ap, wOp_ap, wIxO_ap, wNoPart_ap, wPart_ap, wSl_ap, wUn_ap, wTest_ap, wChain_ap, wTru_ap, wNotT_ap, wAndT_ap, wOrT_ap, wAnd_ap, wOr_ap, wNot_ap, wIfE_ap, wNil_ap, wCons_ap, wTup_ap, wLst_ap, wCall_ap, wCall0_ap, wCallIo_ap, wYes_ap, wGn_ap, wSr_ap, wEn_ap, wZp_ap, wRg1_ap, wRg2_ap, wLc_ap, wMeth_ap, wMeth0_ap, wNext_ap, wSeq_ap, wAsg_ap, wSet_ap, wV_ap, wPar_ap, par2_ap, wGnil_ap, wGcons_ap, wGtup_ap, sl_z, sl_s, set_z, set_s, wipe_z, wipe_s, rest_z, rest_s, oAdd_i, oAdd_t, oAdd_l, oAdd_s, oSub_i, oMul_i, oMul_t, oII_i, oII0_i, oIx_l, oIx_t, oIx_f, oIsN_n, oNotN_n, oLen_l, oLen_t, oLen_f, oInt_i, oInt_b, oI1_i, oNeg_i, oList_l, oList_t, oTuple_l, oTuple_t, oBs_l, oSl_l, oSl_t, oIsi_ap, oIsi2_ap, tyD_n, tyD_b, tyD_i, tyD_s, tyD_t, tyD_l, tyD_f, truD_n, truD_b, truD_i, truD_t, truD_l, asB_b, asI_i, asL_l, isL_l, isL_t, isL_i, isL_b, isL_n, itD_l, itD_t, itD_f, fApp_ap, fExt_ap, ex_some, onS_ap, ite_t, ite_f, bodyD_ap, ioD_c, start_ap, isi_int_NoneType, isi_int_bool, isi_int_int, isi_int_str, isi_int_tuple, isi_int_list, isi_int_dict, isi_bool_NoneType, isi_bool_bool, isi_bool_int, isi_bool_str, isi_bool_tuple, isi_bool_list, isi_bool_dict, isi_str_NoneType, isi_str_bool, isi_str_int, isi_str_str, isi_str_tuple, isi_str_list, isi_str_dict, isi_list_NoneType, isi_list_bool, isi_list_int, isi_list_str, isi_list_tuple, isi_list_list, isi_list_dict, isi_tuple_NoneType, isi_tuple_bool, isi_tuple_int, isi_tuple_str, isi_tuple_tuple, isi_tuple_list, isi_tuple_dict, isi_dict_NoneType, isi_dict_bool, isi_dict_int, isi_dict_str, isi_dict_tuple, isi_dict_list, isi_dict_dict, List.map_cons, List.map_nil, List.cons_append, List.nil_append, List.length_cons, List.length_nil, List.replicate_succ, List.replicate_zero, Nat.reduceAdd, Nat.reduceSub, Nat.zero_add, true_and, and_true, Bool.not_true, Bool.not_false, Bool.true_or, Bool.or_true, Bool.false_or, Bool.or_false, if_true, if_false, Bool.false_eq_true, hkr])
              exact hN _ ⟨v0, v1, v2, some d, _, rfl, hv1, hv2⟩
      · rintro ε ⟨b0, b1, b2, o7, o8, rfl, hb1, hb2⟩
        (try simp only [wC_ap, wSetI_ap, wExpr_ap, wRet_ap, wRetN_ap, wRet0_ap, wIf_ap, wFor_ap, wWhile_ap, wBreak_ap, wCont_ap, wNever_ap, wPick_ap, wCallL_ap, wOp_ap, wIxO_ap, wNoPart_ap, wPart_ap, wSl_ap, wUn_ap, wTest_ap, wChain_ap, wTru_ap, wNotT_ap, wAndT_ap, wOrT_ap, wAnd_ap, wOr_ap, wNot_ap, wIfE_ap, wNil_ap, wCons_ap, wTup_ap, wLst_ap, wCall_ap, wCall0_ap, wCallIo_ap, wYes_ap, wGn_ap, wSr_ap, wEn_ap, wZp_ap, wRg1_ap, wRg2_ap, wLc_ap, wMeth_ap, wMeth0_ap, wNext_ap, wSeq_ap, wAsg_ap, wSet_ap, wV_ap, wPar_ap, par2_ap, wGnil_ap, wGcons_ap, wGtup_ap, sl_z, sl_s, set_z, set_s, wipe_z, wipe_s, rest_z, rest_s, oAdd_i, oAdd_t, oAdd_l, oAdd_s, oSub_i, oMul_i, oMul_t, oII_i, oII0_i, oIx_l, oIx_t, oIx_f, oIsN_n, oNotN_n, oLen_l, oLen_t, oLen_f, oInt_i, oInt_b, oI1_i, oNeg_i, oList_l, oList_t, oTuple_l, oTuple_t, oBs_l, oSl_l, oSl_t, oIsi_ap, oIsi2_ap, tyD_n, tyD_b, tyD_i, tyD_s, tyD_t, tyD_l, tyD_f, truD_n, truD_b, truD_i, truD_t, truD_l, asB_b, asI_i, asL_l, isL_l, isL_t, isL_i, isL_b, isL_n, itD_l, itD_t, itD_f, fApp_ap, fExt_ap, ex_some, onS_ap, ite_t, ite_f, bodyD_ap, ioD_c, start_ap, isi_int_NoneType, isi_int_bool, isi_int_int, isi_int_str, isi_int_tuple, isi_int_list, isi_int_dict, isi_bool_NoneType, isi_bool_bool, isi_bool_int, isi_bool_str, isi_bool_tuple, isi_bool_list, isi_bool_dict, isi_str_NoneType, isi_str_bool, isi_str_int, isi_str_str, isi_str_tuple, isi_str_list, isi_str_dict, isi_list_NoneType, isi_list_bool, isi_list_int, isi_list_str, isi_list_tuple, isi_list_list, isi_list_dict, isi_tuple_NoneType, isi_tuple_bool, isi_tuple_int, isi_tuple_str, isi_tuple_tuple, isi_tuple_list, isi_tuple_dict, isi_dict_NoneType, isi_dict_bool, isi_dict_int, isi_dict_str, isi_dict_tuple, isi_dict_list, isi_dict_dict, List.map_cons, List.map_nil, List.cons_append, List.nil_append, List.length_cons, List.length_nil, List.replicate_succ, List.replicate_zero, Nat.reduceAdd, Nat.reduceSub, Nat.zero_add, true_and, and_true, Bool.not_true, Bool.not_false, Bool.true_or, Bool.or_true, Bool.false_or, Bool.or_false, if_true, if_false, Bool.false_eq_true])
        exact q _ _ ⟨rfl, _, _, _, rfl, hb1, hb2⟩
    | true =>
      unfold sq
      (try simp only [wC_ap, wSetI_ap, wExpr_ap, wRet_ap, wRetN_ap, wRet0_ap, wIf_ap, wFor_ap, wWhile_ap, wBreak_ap, wCont_ap, wNever_ap, wPick_ap, wCallL_ap, wOp_ap, wIxO_ap, wNoPart_ap, wPart_ap, wSl_ap, wUn_ap, wTest_ap, wChain_ap, wTru_ap, wNotT_ap, wAndT_ap, wOrT_ap, wAnd_ap, wOr_ap, wNot_ap, wIfE_ap, wNil_ap, wCons_ap, wTup_ap, wLst_ap, wCall_ap, wCall0_ap, wCallIo_ap, wYes_ap, wGn_ap, wSr_ap, wEn_ap, wZp_ap, wRg1_ap, wRg2_ap, wLc_ap, wMeth_ap, wMeth0_ap, wNext_ap, wSeq_ap, wAsg_ap, wSet_ap, wV_ap, wPar_ap, par2_ap, wGnil_ap, wGcons_ap, wGtup_ap, sl_z, sl_s, set_z, set_s, wipe_z, wipe_s, rest_z, rest_s, oAdd_i, oAdd_t, oAdd_l, oAdd_s, oSub_i, oMul_i, oMul_t, oII_i, oII0_i, oIx_l, oIx_t, oIx_f, oIsN_n, oNotN_n, oLen_l, oLen_t, oLen_f, oInt_i, oInt_b, oI1_i, oNeg_i, oList_l, oList_t, oTuple_l, oTuple_t, oBs_l, oSl_l, oSl_t, oIsi_ap, oIsi2_ap, tyD_n, tyD_b, tyD_i, tyD_s, tyD_t, tyD_l, tyD_f, truD_n, truD_b, truD_i, truD_t, truD_l, asB_b, asI_i, asL_l, isL_l, isL_t, isL_i, isL_b, isL_n, itD_l, itD_t, itD_f, fApp_ap, fExt_ap, ex_some, onS_ap, ite_t, ite_f, bodyD_ap, ioD_c, start_ap, isi_int_NoneType, isi_int_bool, isi_int_int, isi_int_str, isi_int_tuple, isi_int_list, isi_int_dict, isi_bool_NoneType, isi_bool_bool, isi_bool_int, isi_bool_str, isi_bool_tuple, isi_bool_list, isi_bool_dict, isi_str_NoneType, isi_str_bool, isi_str_int, isi_str_str, isi_str_tuple, isi_str_list, isi_str_dict, isi_list_NoneType, isi_list_bool, isi_list_int, isi_list_str, isi_list_tuple, isi_list_list, isi_list_dict, isi_tuple_NoneType, isi_tuple_bool, isi_tuple_int, isi_tuple_str, isi_tuple_tuple, isi_tuple_list, isi_tuple_dict, isi_dict_NoneType, isi_dict_bool, isi_dict_int, isi_dict_str, isi_dict_tuple, isi_dict_list, isi_dict_dict, List.map_cons, List.map_nil, List.cons_append, List.nil_append, List.length_cons, List.length_nil, List.replicate_succ, List.replicate_zero, Nat.reduceAdd, Nat.reduceSub, Nat.zero_add, true_and, and_true, Bool.not_true, Bool.not_false, Bool.true_or, Bool.or_true, Bool.false_or, Bool.or_false, if_true, if_false, Bool.false_eq_true])
      refine ⟨line (by rw [List.length_map]; omega), ?_⟩

      refine ⟨(true, ss, n, at_), rfl, p, ?_⟩
      rintro r c' rfl
      refine ⟨ro, ro, ?_⟩
      rw [eqD_self ro]
      (try simp only [wC_ap, wSetI_ap, wExpr_ap, wRet_ap, wRetN_ap, wRet0_ap, wIf_ap, wFor_ap, wWhile_ap, wBreak_ap, wCont_ap, wNever_ap, wPick_ap, wCallL_ap, wOp_ap, wIxO_ap, wNoPart_ap, wPart_ap, wSl_ap, wUn_ap, wTest_ap, wChain_ap, wTru_ap, wNotT_ap, wAndT_ap, wOrT_ap, wAnd_ap, wOr_ap, wNot_ap, wIfE_ap, wNil_ap, wCons_ap, wTup_ap, wLst_ap, wCall_ap, wCall0_ap, wCallIo_ap, wYes_ap, wGn_ap, wSr_ap, wEn_ap, wZp_ap, wRg1_ap, wRg2_ap, wLc_ap, wMeth_ap, wMeth0_ap, wNext_ap, wSeq_ap, wAsg_ap, wSet_ap, wV_ap, wPar_ap, par2_ap, wGnil_ap, wGcons_ap, wGtup_ap, sl_z, sl_s, set_z, set_s, wipe_z, wipe_s, rest_z, rest_s, oAdd_i, oAdd_t, oAdd_l, oAdd_s, oSub_i, oMul_i, oMul_t, oII_i, oII0_i, oIx_l, oIx_t, oIx_f, oIsN_n, oNotN_n, oLen_l, oLen_t, oLen_f, oInt_i, oInt_b, oI1_i, oNeg_i, oList_l, oList_t, oTuple_l, oTuple_t, oBs_l, oSl_l, oSl_t, oIsi_ap, oIsi2_ap, tyD_n, tyD_b, tyD_i, tyD_s, tyD_t, tyD_l, tyD_f, truD_n, truD_b, truD_i, truD_t, truD_l, asB_b, asI_i, asL_l, isL_l, isL_t, isL_i, isL_b, isL_n, itD_l, itD_t, itD_f, fApp_ap, fExt_ap, ex_some, onS_ap, ite_t, ite_f, bodyD_ap, ioD_c, start_ap, isi_int_NoneType, isi_int_bool, isi_int_int, isi_int_str, isi_int_tuple, isi_int_list, isi_int_dict, isi_bool_NoneType, isi_bool_bool, isi_bool_int, isi_bool_str, isi_bool_tuple, isi_bool_list, isi_bool_dict, isi_str_NoneType, isi_str_bool, isi_str_int, isi_str_str, isi_str_tuple, isi_str_list, isi_str_dict, isi_list_NoneType, isi_list_bool, isi_list_int, isi_list_str, isi_list_tuple, isi_list_list, isi_list_dict, isi_tuple_NoneType, isi_tuple_bool, isi_tuple_int, isi_tuple_str, isi_tuple_tuple, isi_tuple_list, isi_tuple_dict, isi_dict_NoneType, isi_dict_bool, isi_dict_int, isi_dict_str, isi_dict_tuple, isi_dict_list, isi_dict_dict, List.map_cons, List.map_nil, List.cons_append, List.nil_append, List.length_cons, List.length_nil, List.replicate_succ, List.replicate_zero, Nat.reduceAdd, Nat.reduceSub, Nat.zero_add, true_and, and_true, Bool.not_true, Bool.not_false, Bool.true_or, Bool.or_true, Bool.false_or, Bool.or_false, if_true, if_false, Bool.false_eq_true])
      refine ⟨⟨by decide, by decide⟩, ?_⟩
      refine for_inv (fun pre ε => ∃ b0 b1 b2 o7 o8, ε = [some (.lst [.int b0, .int b1, .int b2]), some (.lst (ss.map tI)), some (.int at_), some (.lst ((rowsOf ss at_).map rowD)), some (.lst prs), some (.lst (ss.map tI ++ [D.non])), some (.lst ((rowsOf ss at_).map rowD ++ [D.non]).reverse), o7, o8, none, none] ∧ 0 ≤ b1 ∧ b1 < 2147483648) ?_ ?_ ⟨a0, a1, a2, none, none, rfl, ha1, ha2⟩
      · rintro pre d r ε e ⟨b0, b1, b2, o7, o8, rfl, hb1, hb2⟩ N hN
        (try simp only [wC_ap, wSetI_ap, wExpr_ap, wRet_ap, wRetN_ap, wRet0_ap, wIf_ap, wFor_ap, wWhile_ap, wBreak_ap, wCont_ap, wNever_ap, wPick_ap, wCallL_ap, wOp_ap, wIxO_ap, wNoPart_ap, wPart_ap, wSl_ap, wUn_ap, wTest_ap, wChain_ap, wTru_ap, wNotT_ap, wAndT_ap, wOrT_ap, wAnd_ap, wOr_ap, wNot_ap, wIfE_ap, wNil_ap, wCons_ap, wTup_ap, wLst_ap, wCall_ap, wCall0_ap, wCallIo_ap, wYes_ap, wGn_ap, wSr_ap, wEn_ap, wZp_ap, wRg1_ap, wRg2_ap, wLc_ap, wMeth_ap, wMeth0_ap, wNext_ap, wSeq_ap, wAsg_ap, wSet_ap, wV_ap, wPar_ap, par2_ap, wGnil_ap, wGcons_ap, wGtup_ap, sl_z, sl_s, set_z, set_s, wipe_z, wipe_s, rest_z, rest_s, oAdd_i, oAdd_t, oAdd_l, oAdd_s, oSub_i, oMul_i, oMul_t, oII_i, oII0_i, oIx_l, oIx_t, oIx_f, oIsN_n, oNotN_n, oLen_l, oLen_t, oLen_f, oInt_i, oInt_b, oI1_i, oNeg_i, oList_l, oList_t, oTuple_l, oTuple_t, oBs_l, oSl_l, oSl_t, oIsi_ap, oIsi2_ap, tyD_n, tyD_b, tyD_i, tyD_s, tyD_t, tyD_l, tyD_f, truD_n, truD_b, truD_i, truD_t, truD_l, asB_b, asI_i, asL_l, isL_l, isL_t, isL_i, isL_b, isL_n, itD_l, itD_t, itD_f, fApp_ap, fExt_ap, ex_some, onS_ap, ite_t, ite_f, bodyD_ap, ioD_c, start_ap, isi_int_NoneType, isi_int_bool, isi_int_int, isi_int_str, isi_int_tuple, isi_int_list, isi_int_dict, isi_bool_NoneType, isi_bool_bool, isi_bool_int, isi_bool_str, isi_bool_tuple, isi_bool_list, isi_bool_dict, isi_str_NoneType, isi_str_bool, isi_str_int, isi_str_str, isi_str_tuple, isi_str_list, isi_str_dict, isi_list_NoneType, isi_list_bool, isi_list_int, isi_list_str, isi_list_tuple, isi_list_list, isi_list_dict, isi_tuple_NoneType, isi_tuple_bool, isi_tuple_int, isi_tuple_str, isi_tuple_tuple, isi_tuple_list, isi_tuple_dict, isi_dict_NoneType, isi_dict_bool, isi_dict_int, isi_dict_str, isi_dict_tuple, isi_dict_list, isi_dict_dict, List.map_cons, List.map_nil, List.cons_append, List.nil_append, List.length_cons, List.length_nil, List.replicate_succ, List.replicate_zero, Nat.reduceAdd, Nat.reduceSub, Nat.zero_add, true_and, and_true, Bool.not_true, Bool.not_false, Bool.true_or, Bool.or_true, Bool.false_or, Bool.or_false, if_true, if_false, Bool.false_eq_true, hix0])
        rw [hsl0]
        (try simp only [wC_ap, wSetI_ap, wExpr_ap, wRet_ap, wRetN_ap, wRet0_ap, wIf_ap, wFor_ap, wWhile_ap, wBreak_ap, wCont_ap, wNever_ap, wPick_ap, wCallL_ap, wOp_ap, wIxO_ap, wNoPart_ap, wPart_ap, wSl_ap, wUn_ap, wTest_ap, wChain_ap, wTru_ap, wNotT_ap, wAndT_ap, wOrT_ap, wAnd_ap, wOr_ap, wNot_ap, wIfE_ap, wNil_ap, wCons_ap, wTup_ap, wLst_ap, wCall_ap, wCall0_ap, wCallIo_ap, wYes_ap, wGn_ap, wSr_ap, wEn_ap, wZp_ap, wRg1_ap, wRg2_ap, wLc_ap, wMeth_ap, wMeth0_ap, wNext_ap, wSeq_ap, wAsg_ap, wSet_ap, wV_ap, wPar_ap, par2_ap, wGnil_ap, wGcons_ap, wGtup_ap, sl_z, sl_s, set_z, set_s, wipe_z, wipe_s, rest_z, rest_s, oAdd_i, oAdd_t, oAdd_l, oAdd_s, oSub_i, oMul_i, oMul_t, oII_i, oII0_i, oIx_l, oIx_t, oIx_f, oIsN_n, oNotN_n, oLen_l, oLen_t, oLen_f, oInt_i, oInt_b, oI1_i, oNeg_i, oList_l, oList_t, oTuple_l, oTuple_t, oBs_l, oSl_l, oSl_t, oIsi_ap, oIsi2_ap, tyD_n, tyD_b, tyD_i, tyD_s, tyD_t, tyD_l, tyD_f, truD_n, truD_b, truD_i, truD_t, truD_l, asB_b, asI_i, asL_l, isL_l, isL_t, isL_i, isL_b, isL_n, itD_l, itD_t, itD_f, fApp_ap, fExt_ap, ex_some, onS_ap, ite_t, ite_f, bodyD_ap, ioD_c, start_ap, isi_int_NoneType, isi_int_bool, isi_int_int, isi_int_str, isi_int_tuple, isi_int_list, isi_int_dict, isi_bool_NoneType, isi_bool_bool, isi_bool_int, isi_bool_str, isi_bool_tuple, isi_bool_list, isi_bool_dict, isi_str_NoneType, isi_str_bool, isi_str_int, isi_str_str, isi_str_tuple, isi_str_list, isi_str_dict, isi_list_NoneType, isi_list_bool, isi_list_int, isi_list_str, isi_list_tuple, isi_list_list, isi_list_dict, isi_tuple_NoneType, isi_tuple_bool, isi_tuple_int, isi_tuple_str, isi_tuple_tuple, isi_tuple_list, isi_tuple_dict, isi_dict_NoneType, isi_dict_bool, isi_dict_int, isi_dict_str, isi_dict_tuple, isi_dict_list, isi_dict_dict, List.map_cons, List.map_nil, List.cons_append, List.nil_append, List.length_cons, List.length_nil, List.replicate_succ, List.replicate_zero, Nat.reduceAdd, Nat.reduceSub, Nat.zero_add, true_and, and_true, Bool.not_true, Bool.not_false, Bool.true_or, Bool.or_true, Bool.false_or, Bool.or_false, if_true, if_false, Bool.false_eq_true, itD_tI])
        refine ⟨by rw [List.length_map]; exact small_z (by omega), ?_⟩
        refine lc_inv (fun pre' acc ε => ∃ b0 b1 b2 xs, acc = List.map D.int xs ∧ ε = [some (.lst [.int b0, .int b1, .int b2]), some (.lst (ss.map tI)), some (.int at_), some (.lst ((rowsOf ss at_).map rowD)), some (.lst prs), some (.lst (ss.map tI ++ [D.non])), some (.lst ((rowsOf ss at_).map rowD ++ [D.non]).reverse), some d, o8, none, none] ∧ 0 ≤ b1 ∧ b1 < 2147483648 ∧ xs.length = pre'.length) ?_ ?_ ⟨b0, b1, b2, [], rfl, rfl, hb1, hb2, rfl⟩
        · rintro pre' d' r' acc ε e' ⟨b0, b1, b2, xs, rfl, rfl, hb1, hb2, hxl⟩ K1 K0 h1 h0
          (try simp only [wC_ap, wSetI_ap, wExpr_ap, wRet_ap, wRetN_ap, wRet0_ap, wIf_ap, wFor_ap, wWhile_ap, wBreak_ap, wCont_ap, wNever_ap, wPick_ap, wCallL_ap, wOp_ap, wIxO_ap, wNoPart_ap, wPart_ap, wSl_ap, wUn_ap, wTest_ap, wChain_ap, wTru_ap, wNotT_ap, wAndT_ap, wOrT_ap, wAnd_ap, wOr_ap, wNot_ap, wIfE_ap, wNil_ap, wCons_ap, wTup_ap, wLst_ap, wCall_ap, wCall0_ap, wCallIo_ap, wYes_ap, wGn_ap, wSr_ap, wEn_ap, wZp_ap, wRg1_ap, wRg2_ap, wLc_ap, wMeth_ap, wMeth0_ap, wNext_ap, wSeq_ap, wAsg_ap, wSet_ap, wV_ap, wPar_ap, par2_ap, wGnil_ap, wGcons_ap, wGtup_ap, sl_z, sl_s, set_z, set_s, wipe_z, wipe_s, rest_z, rest_s, oAdd_i, oAdd_t, oAdd_l, oAdd_s, oSub_i, oMul_i, oMul_t, oII_i, oII0_i, oIx_l, oIx_t, oIx_f, oIsN_n, oNotN_n, oLen_l, oLen_t, oLen_f, oInt_i, oInt_b, oI1_i, oNeg_i, oList_l, oList_t, oTuple_l, oTuple_t, oBs_l, oSl_l, oSl_t, oIsi_ap, oIsi2_ap, tyD_n, tyD_b, tyD_i, tyD_s, tyD_t, tyD_l, tyD_f, truD_n, truD_b, truD_i, truD_t, truD_l, asB_b, asI_i, asL_l, isL_l, isL_t, isL_i, isL_b, isL_n, itD_l, itD_t, itD_f, fApp_ap, fExt_ap, ex_some, onS_ap, ite_t, ite_f, bodyD_ap, ioD_c, start_ap, isi_int_NoneType, isi_int_bool, isi_int_int, isi_int_str, isi_int_tuple, isi_int_list, isi_int_dict, isi_bool_NoneType, isi_bool_bool, isi_bool_int, isi_bool_str, isi_bool_tuple, isi_bool_list, isi_bool_dict, isi_str_NoneType, isi_str_bool, isi_str_int, isi_str_str, isi_str_tuple, isi_str_list, isi_str_dict, isi_list_NoneType, isi_list_bool, isi_list_int, isi_list_str, isi_list_tuple, isi_list_list, isi_list_dict, isi_tuple_NoneType, isi_tuple_bool, isi_tuple_int, isi_tuple_str, isi_tuple_tuple, isi_tuple_list, isi_tuple_dict, isi_dict_NoneType, isi_dict_bool, isi_dict_int, isi_dict_str, isi_dict_tuple, isi_dict_list, isi_dict_dict, List.map_cons, List.map_nil, List.cons_append, List.nil_append, List.length_cons, List.length_nil, List.replicate_succ, List.replicate_zero, Nat.reduceAdd, Nat.reduceSub, Nat.zero_add, true_and, and_true, Bool.not_true, Bool.not_false, Bool.true_or, Bool.or_true, Bool.false_or, Bool.or_false, if_true, if_false, Bool.false_eq_true])
          refine ⟨(.lst [.int b0, .int b1, .int b2], 31), rfl, tkp hb1 hb2 (by decide) (by decide), ?_⟩
          rintro r c' ⟨⟨z, rfl, hz⟩, y0, y1, y2, rfl, hy1, hy2⟩
          (try simp only [wC_ap, wSetI_ap, wExpr_ap, wRet_ap, wRetN_ap, wRet0_ap, wIf_ap, wFor_ap, wWhile_ap, wBreak_ap, wCont_ap, wNever_ap, wPick_ap, wCallL_ap, wOp_ap, wIxO_ap, wNoPart_ap, wPart_ap, wSl_ap, wUn_ap, wTest_ap, wChain_ap, wTru_ap, wNotT_ap, wAndT_ap, wOrT_ap, wAnd_ap, wOr_ap, wNot_ap, wIfE_ap, wNil_ap, wCons_ap, wTup_ap, wLst_ap, wCall_ap, wCall0_ap, wCallIo_ap, wYes_ap, wGn_ap, wSr_ap, wEn_ap, wZp_ap, wRg1_ap, wRg2_ap, wLc_ap, wMeth_ap, wMeth0_ap, wNext_ap, wSeq_ap, wAsg_ap, wSet_ap, wV_ap, wPar_ap, par2_ap, wGnil_ap, wGcons_ap, wGtup_ap, sl_z, sl_s, set_z, set_s, wipe_z, wipe_s, rest_z, rest_s, oAdd_i, oAdd_t, oAdd_l, oAdd_s, oSub_i, oMul_i, oMul_t, oII_i, oII0_i, oIx_l, oIx_t, oIx_f, oIsN_n, oNotN_n, oLen_l, oLen_t, oLen_f, oInt_i, oInt_b, oI1_i, oNeg_i, oList_l, oList_t, oTuple_l, oTuple_t, oBs_l, oSl_l, oSl_t, oIsi_ap, oIsi2_ap, tyD_n, tyD_b, tyD_i, tyD_s, tyD_t, tyD_l, tyD_f, truD_n, truD_b, truD_i, truD_t, truD_l, asB_b, asI_i, asL_l, isL_l, isL_t, isL_i, isL_b, isL_n, itD_l, itD_t, itD_f, fApp_ap, fExt_ap, ex_some, onS_ap, ite_t, ite_f, bodyD_ap, ioD_c, start_ap, isi_int_NoneType, isi_int_bool, isi_int_int, isi_int_str, isi_int_tuple, isi_int_list, isi_int_dict, isi_bool_NoneType, isi_bool_bool, isi_bool_int, isi_bool_str, isi_bool_tuple, isi_bool_list, isi_bool_dict, isi_str_NoneType, isi_str_bool, isi_str_int, isi_str_str, isi_str_tuple, isi_str_list, isi_str_dict, isi_list_NoneType, isi_list_bool, isi_list_int, isi_list_str, isi_list_tuple, isi_list_list, isi_list_dict, isi_tuple_NoneType, isi_tuple_bool, isi_tuple_int, isi_tuple_str, isi_tuple_tuple, isi_tuple_list, isi_tuple_dict, isi_dict_NoneType, isi_dict_bool, isi_dict_int, isi_dict_str, isi_dict_tuple, isi_dict_list, isi_dict_dict, List.map_cons, List.map_nil, List.cons_append, List.nil_append, List.length_cons, List.length_nil, List.replicate_succ, List.replicate_zero, Nat.reduceAdd, Nat.reduceSub, Nat.zero_add, true_and, and_true, Bool.not_true, Bool.not_false, Bool.true_or, Bool.or_true, Bool.false_or, Bool.or_false, if_true, if_false, Bool.false_eq_true])
          exact h1 _ _ ⟨y0, y1, y2, xs ++ [(z : Int) - 15], by simp, rfl, hy1, hy2, by simp [hxl]⟩
        · rintro acc ε ⟨v0, v1, v2, xs, rfl, rfl, hv1, hv2, hxl⟩
          have hxn : xs.length = n := by rw [hxl, List.length_map]; exact hdl
          (try simp only [wC_ap, wSetI_ap, wExpr_ap, wRet_ap, wRetN_ap, wRet0_ap, wIf_ap, wFor_ap, wWhile_ap, wBreak_ap, wCont_ap, wNever_ap, wPick_ap, wCallL_ap, wOp_ap, wIxO_ap, wNoPart_ap, wPart_ap, wSl_ap, wUn_ap, wTest_ap, wChain_ap, wTru_ap, wNotT_ap, wAndT_ap, wOrT_ap, wAnd_ap, wOr_ap, wNot_ap, wIfE_ap, wNil_ap, wCons_ap, wTup_ap, wLst_ap, wCall_ap, wCall0_ap, wCallIo_ap, wYes_ap, wGn_ap, wSr_ap, wEn_ap, wZp_ap, wRg1_ap, wRg2_ap, wLc_ap, wMeth_ap, wMeth0_ap, wNext_ap, wSeq_ap, wAsg_ap, wSet_ap, wV_ap, wPar_ap, par2_ap, wGnil_ap, wGcons_ap, wGtup_ap, sl_z, sl_s, set_z, set_s, wipe_z, wipe_s, rest_z, rest_s, oAdd_i, oAdd_t, oAdd_l, oAdd_s, oSub_i, oMul_i, oMul_t, oII_i, oII0_i, oIx_l, oIx_t, oIx_f, oIsN_n, oNotN_n, oLen_l, oLen_t, oLen_f, oInt_i, oInt_b, oI1_i, oNeg_i, oList_l, oList_t, oTuple_l, oTuple_t, oBs_l, oSl_l, oSl_t, oIsi_ap, oIsi2_ap, tyD_n, tyD_b, tyD_i, tyD_s, tyD_t, tyD_l, tyD_f, truD_n, truD_b, truD_i, truD_t, truD_l, asB_b, asI_i, asL_l, isL_l, isL_t, isL_i, isL_b, isL_n, itD_l, itD_t, itD_f, fApp_ap, fExt_ap, ex_some, onS_ap, ite_t, ite_f, bodyD_ap, ioD_c, start_ap, isi_int_NoneType, isi_int_bool, isi_int_int, isi_int_str, isi_int_tuple, isi_int_list, isi_int_dict, isi_bool_NoneType, isi_bool_bool, isi_bool_int, isi_bool_str, isi_bool_tuple, isi_bool_list, isi_bool_dict, isi_str_NoneType, isi_str_bool, isi_str_int, isi_str_str, isi_str_tuple, isi_str_list, isi_str_dict, isi_list_NoneType, isi_list_bool, isi_list_int, isi_list_str, isi_list_tuple, isi_list_list, isi_list_dict, isi_tuple_NoneType, isi_tuple_bool, isi_tuple_int, isi_tuple_str, isi_tuple_tuple, isi_tuple_list, isi_tuple_dict, isi_dict_NoneType, isi_dict_bool, isi_dict_int, isi_dict_str, isi_dict_tuple, isi_dict_list, isi_dict_dict, List.map_cons, List.map_nil, List.cons_append, List.nil_append, List.length_cons, List.length_nil, List.replicate_succ, List.replicate_zero, Nat.reduceAdd, Nat.reduceSub, Nat.zero_add, true_and, and_true, Bool.not_true, Bool.not_false, Bool.true_or, Bool.or_true, Bool.false_or, Bool.or_false, if_true, if_false, Bool.false_eq_true])
          refine ⟨(ss, xs), rfl, ⟨by show ss.length ≤ 1000000; omega, by show xs.length ≤ 100; omega, fun s hs => ⟨by show s.length = xs.length + 1; rw [p.len s hs, hxn], (p.pl hs).s8⟩⟩, ?_⟩
          rintro r c' rfl
          (try simp only [wC_ap, wSetI_ap, wExpr_ap, wRet_ap, wRetN_ap, wRet0_ap, wIf_ap, wFor_ap, wWhile_ap, wBreak_ap, wCont_ap, wNever_ap, wPick_ap, wCallL_ap, wOp_ap, wIxO_ap, wNoPart_ap, wPart_ap, wSl_ap, wUn_ap, wTest_ap, wChain_ap, wTru_ap, wNotT_ap, wAndT_ap, wOrT_ap, wAnd_ap, wOr_ap, wNot_ap, wIfE_ap, wNil_ap, wCons_ap, wTup_ap, wLst_ap, wCall_ap, wCall0_ap, wCallIo_ap, wYes_ap, wGn_ap, wSr_ap, wEn_ap, wZp_ap, wRg1_ap, wRg2_ap, wLc_ap, wMeth_ap, wMeth0_ap, wNext_ap, wSeq_ap, wAsg_ap, wSet_ap, wV_ap, wPar_ap, par2_ap, wGnil_ap, wGcons_ap, wGtup_ap, sl_z, sl_s, set_z, set_s, wipe_z, wipe_s, rest_z, rest_s, oAdd_i, oAdd_t, oAdd_l, oAdd_s, oSub_i, oMul_i, oMul_t, oII_i, oII0_i, oIx_l, oIx_t, oIx_f, oIsN_n, oNotN_n, oLen_l, oLen_t, oLen_f, oInt_i, oInt_b, oI1_i, oNeg_i, oList_l, oList_t, oTuple_l, oTuple_t, oBs_l, oSl_l, oSl_t, oIsi_ap, oIsi2_ap, tyD_n, tyD_b, tyD_i, tyD_s, tyD_t, tyD_l, tyD_f, truD_n, truD_b, truD_i, truD_t, truD_l, asB_b, asI_i, asL_l, isL_l, isL_t, isL_i, isL_b, isL_n, itD_l, itD_t, itD_f, fApp_ap, fExt_ap, ex_some, onS_ap, ite_t, ite_f, bodyD_ap, ioD_c, start_ap, isi_int_NoneType, isi_int_bool, isi_int_int, isi_int_str, isi_int_tuple, isi_int_list, isi_int_dict, isi_bool_NoneType, isi_bool_bool, isi_bool_int, isi_bool_str, isi_bool_tuple, isi_bool_list, isi_bool_dict, isi_str_NoneType, isi_str_bool, isi_str_int, isi_str_str, isi_str_tuple, isi_str_list, isi_str_dict, isi_list_NoneType, isi_list_bool, isi_list_int, isi_list_str, isi_list_tuple, isi_list_list, isi_list_dict, isi_tuple_NoneType, isi_tuple_bool, isi_tuple_int, isi_tuple_str, isi_tuple_tuple, isi_tuple_list, isi_tuple_dict, isi_dict_NoneType, isi_dict_bool, isi_dict_int, isi_dict_str, isi_dict_tuple, isi_dict_list, isi_dict_dict, List.map_cons, List.map_nil, List.cons_append, List.nil_append, List.length_cons, List.length_nil, List.replicate_succ, List.replicate_zero, Nat.reduceAdd, Nat.reduceSub, Nat.zero_add, true_and, and_true, Bool.not_true, Bool.not_false, Bool.true_or, Bool.or_true, Bool.false_or, Bool.or_false, if_true, if_false, Bool.false_eq_true])
          cases hk : keptB ss xs with
          | false =>
            (try simp only [wC_ap, wSetI_ap, wExpr_ap, wRet_ap, wRetN_ap, wRet0_ap, wIf_ap, wFor_ap, wWhile_ap, wBreak_ap, wCont_ap, wNever_ap, wPick_ap, wCallL_ap, wOp_ap, wIxO_ap, wNoPart_ap, wPart_ap, wSl_ap, wUn_ap, wTest_ap, wChain_ap, wTru_ap, wNotT_ap, wAndT_ap, wOrT_ap, wAnd_ap, wOr_ap, wNot_ap, wIfE_ap, wNil_ap, wCons_ap, wTup_ap, wLst_ap, wCall_ap, wCall0_ap, wCallIo_ap, wYes_ap, wGn_ap, wSr_ap, wEn_ap, wZp_ap, wRg1_ap, wRg2_ap, wLc_ap, wMeth_ap, wMeth0_ap, wNext_ap, wSeq_ap, wAsg_ap, wSet_ap, wV_ap, wPar_ap, par2_ap, wGnil_ap, wGcons_ap, wGtup_ap, sl_z, sl_s, set_z, set_s, wipe_z, wipe_s, rest_z, rest_s, oAdd_i, oAdd_t, oAdd_l, oAdd_s, oSub_i, oMul_i, oMul_t, oII_i, oII0_i, oIx_l, oIx_t, oIx_f, oIsN_n, oNotN_n, oLen_l, oLen_t, oLen_f, oInt_i, oInt_b, oI1_i, oNeg_i, oList_l, oList_t, oTuple_l, oTuple_t, oBs_l, oSl_l, oSl_t, oIsi_ap, oIsi2_ap, tyD_n, tyD_b, tyD_i, tyD_s, tyD_t, tyD_l, tyD_f, truD_n, truD_b, truD_i, truD_t, truD_l, asB_b, asI_i, asL_l, isL_l, isL_t, isL_i, isL_b, isL_n, itD_l, itD_t, itD_f, fApp_ap, fExt_ap, ex_some, onS_ap, ite_t, ite_f, bodyD_ap, ioD_c, start_ap, isi_int_NoneType, isi_int_bool, isi_int_int, isi_int_str, isi_int_tuple, isi_int_list, isi_int_dict, isi_bool_NoneType, isi_bool_bool, isi_bool_int, isi_bool_str, isi_bool_tuple, isi_bool_list, isi_bool_dict, isi_str_NoneType, isi_str_bool, isi_str_int, isi_str_str, isi_str_tuple, isi_str_list, isi_str_dict, isi_list_NoneType, isi_list_bool, isi_list_int, isi_list_str, isi_list_tuple, isi_list_list, isi_list_dict, isi_tuple_NoneType, isi_tuple_bool, isi_tuple_int, isi_tuple_str, isi_tuple_tuple, isi_tuple_list, isi_tuple_dict, isi_dict_NoneType, isi_dict_bool, isi_dict_int, isi_dict_str, isi_dict_tuple, isi_dict_list, isi_dict_dict, List.map_cons, List.map_nil, List.cons_append, List.nil_append, List.length_cons, List.length_nil, List.replicate_succ, List.replicate_zero, Nat.reduceAdd, Nat.reduceSub, Nat.zero_add, true_and, and_true, Bool.not_true, Bool.not_false, Bool.true_or, Bool.or_true, Bool.false_or, Bool.or_false, if_true, if_false, Bool.false_eq_true, hk])
            exact hN _ ⟨v0, v1, v2, some d, _, rfl, hv1, hv2⟩
          | true =>
            (try simp only [wC_ap, wSetI_ap, wExpr_ap, wRet_ap, wRetN_ap, wRet0_ap, wIf_ap, wFor_ap, wWhile_ap, wBreak_ap, wCont_ap, wNever_ap, wPick_ap, wCallL_ap, wOp_ap, wIxO_ap, wNoPart_ap, wPart_ap, wSl_ap, wUn_ap, wTest_ap, wChain_ap, wTru_ap, wNotT_ap, wAndT_ap, wOrT_ap, wAnd_ap, wOr_ap, wNot_ap, wIfE_ap, wNil_ap, wCons_ap, wTup_ap, wLst_ap, wCall_ap, wCall0_ap, wCallIo_ap, wYes_ap, wGn_ap, wSr_ap, wEn_ap, wZp_ap, wRg1_ap, wRg2_ap, wLc_ap, wMeth_ap, wMeth0_ap, wNext_ap, wSeq_ap, wAsg_ap, wSet_ap, wV_ap, wPar_ap, par2_ap, wGnil_ap, wGcons_ap, wGtup_ap, sl_z, sl_s, set_z, set_s, wipe_z, wipe_s, rest_z, rest_s, oAdd_i, oAdd_t, oAdd_l, oAdd_s, oSub_i, oMul_i, oMul_t, oII_i, oII0_i, oIx_l, oIx_t, oIx_f, oIsN_n, oNotN_n, oLen_l, oLen_t, oLen_f, oInt_i, oInt_b, oI1_i, oNeg_i, oList_l, oList_t, oTuple_l, oTuple_t, oBs_l, oSl_l, oSl_t, oIsi_ap, oIsi2_ap, tyD_n, tyD_b, tyD_i, tyD_s, tyD_t, tyD_l, tyD_f, truD_n, truD_b, truD_i, truD_t, truD_l, asB_b, asI_i, asL_l, isL_l, isL_t, isL_i, isL_b, isL_n, itD_l, itD_t, itD_f, fApp_ap, fExt_ap, ex_some, onS_ap, ite_t, ite_f, bodyD_ap, ioD_c, start_ap, isi_int_NoneType, isi_int_bool, isi_int_int, isi_int_str, isi_int_tuple, isi_int_list, isi_int_dict, isi_bool_NoneType, isi_bool_bool, isi_bool_int, isi_bool_str, isi_bool_tuple, isi_bool_list, isi_bool_dict, isi_str_NoneType, isi_str_bool, isi_str_int, isi_str_str, isi_str_tuple, isi_str_list, isi_str_dict, isi_list_NoneType, isi_list_bool, isi_list_int, isi_list_str, isi_list_tuple, isi_list_list, isi_list_dict, isi_tuple_NoneType, isi_tuple_bool, isi_tuple_int, isi_tuple_str, isi_tuple_tuple, isi_tuple_list, isi_tuple_dict, isi_dict_NoneType, isi_dict_bool, isi_dict_int, isi_dict_str, isi_dict_tuple, isi_dict_list, isi_dict_dict, List.map_cons, List.map_nil, List.cons_append, List.nil_append, List.length_cons, List.length_nil, List.replicate_succ, List.replicate_zero, Nat.reduceAdd, Nat.reduceSub, Nat.zero_add, true_and, and_true, Bool.not_true, Bool.not_false, Bool.true_or, Bool.or_true, Bool.false_or, Bool.or_false, if_true, if_false, Bool.false_eq_true, hk])
            refine ⟨by rw [List.length_map]; exact small_z (by omega), lc_map (fun d => match d with | .tup [t, _] => t | _ => .non) ?_ ?_⟩
            · intro d hd K1 h1
              obtain ⟨⟨t, m⟩, hr, rfl⟩ := List.mem_map.mp hd
              have hd' : rowD (t, m) = .tup [tI t, m.d] := rfl
              rw [hd'] at h1 ⊢
              (try simp only [wC_ap, wSetI_ap, wExpr_ap, wRet_ap, wRetN_ap, wRet0_ap, wIf_ap, wFor_ap, wWhile_ap, wBreak_ap, wCont_ap, wNever_ap, wPick_ap, wCallL_ap, wOp_ap, wIxO_ap, wNoPart_ap, wPart_ap, wSl_ap, wUn_ap, wTest_ap, wChain_ap, wTru_ap, wNotT_ap, wAndT_ap, wOrT_ap, wAnd_ap, wOr_ap, wNot_ap, wIfE_ap, wNil_ap, wCons_ap, wTup_ap, wLst_ap, wCall_ap, wCall0_ap, wCallIo_ap, wYes_ap, wGn_ap, wSr_ap, wEn_ap, wZp_ap, wRg1_ap, wRg2_ap, wLc_ap, wMeth_ap, wMeth0_ap, wNext_ap, wSeq_ap, wAsg_ap, wSet_ap, wV_ap, wPar_ap, par2_ap, wGnil_ap, wGcons_ap, wGtup_ap, sl_z, sl_s, set_z, set_s, wipe_z, wipe_s, rest_z, rest_s, oAdd_i, oAdd_t, oAdd_l, oAdd_s, oSub_i, oMul_i, oMul_t, oII_i, oII0_i, oIx_l, oIx_t, oIx_f, oIsN_n, oNotN_n, oLen_l, oLen_t, oLen_f, oInt_i, oInt_b, oI1_i, oNeg_i, oList_l, oList_t, oTuple_l, oTuple_t, oBs_l, oSl_l, oSl_t, oIsi_ap, oIsi2_ap, tyD_n, tyD_b, tyD_i, tyD_s, tyD_t, tyD_l, tyD_f, truD_n, truD_b, truD_i, truD_t, truD_l, asB_b, asI_i, asL_l, isL_l, isL_t, isL_i, isL_b, isL_n, itD_l, itD_t, itD_f, fApp_ap, fExt_ap, ex_some, onS_ap, ite_t, ite_f, bodyD_ap, ioD_c, start_ap, isi_int_NoneType, isi_int_bool, isi_int_int, isi_int_str, isi_int_tuple, isi_int_list, isi_int_dict, isi_bool_NoneType, isi_bool_bool, isi_bool_int, isi_bool_str, isi_bool_tuple, isi_bool_list, isi_bool_dict, isi_str_NoneType, isi_str_bool, isi_str_int, isi_str_str, isi_str_tuple, isi_str_list, isi_str_dict, isi_list_NoneType, isi_list_bool, isi_list_int, isi_list_str, isi_list_tuple, isi_list_list, isi_list_dict, isi_tuple_NoneType, isi_tuple_bool, isi_tuple_int, isi_tuple_str, isi_tuple_tuple, isi_tuple_list, isi_tuple_dict, isi_dict_NoneType, isi_dict_bool, isi_dict_int, isi_dict_str, isi_dict_tuple, isi_dict_list, isi_dict_dict, List.map_cons, List.map_nil, List.cons_append, List.nil_append, List.length_cons, List.length_nil, List.replicate_succ, List.replicate_zero, Nat.reduceAdd, Nat.reduceSub, Nat.zero_add, true_and, and_true, Bool.not_true, Bool.not_false, Bool.true_or, Bool.or_true, Bool.false_or, Bool.or_false, if_true, if_false, Bool.false_eq_true, atI_z])
              exact h1 _ rfl
            · have em : ((rowsOf ss at_).map rowD).map (fun d => match d with | .tup [t, _] => t | _ => .non) = ((rowsOf ss at_).map (·.1)).map tI := by
                rw [List.map_map, List.map_map]; rfl
              rw [em]
              (try simp only [wC_ap, wSetI_ap, wExpr_ap, wRet_ap, wRetN_ap, wRet0_ap, wIf_ap, wFor_ap, wWhile_ap, wBreak_ap, wCont_ap, wNever_ap, wPick_ap, wCallL_ap, wOp_ap, wIxO_ap, wNoPart_ap, wPart_ap, wSl_ap, wUn_ap, wTest_ap, wChain_ap, wTru_ap, wNotT_ap, wAndT_ap, wOrT_ap, wAnd_ap, wOr_ap, wNot_ap, wIfE_ap, wNil_ap, wCons_ap, wTup_ap, wLst_ap, wCall_ap, wCall0_ap, wCallIo_ap, wYes_ap, wGn_ap, wSr_ap, wEn_ap, wZp_ap, wRg1_ap, wRg2_ap, wLc_ap, wMeth_ap, wMeth0_ap, wNext_ap, wSeq_ap, wAsg_ap, wSet_ap, wV_ap, wPar_ap, par2_ap, wGnil_ap, wGcons_ap, wGtup_ap, sl_z, sl_s, set_z, set_s, wipe_z, wipe_s, rest_z, rest_s, oAdd_i, oAdd_t, oAdd_l, oAdd_s, oSub_i, oMul_i, oMul_t, oII_i, oII0_i, oIx_l, oIx_t, oIx_f, oIsN_n, oNotN_n, oLen_l, oLen_t, oLen_f, oInt_i, oInt_b, oI1_i, oNeg_i, oList_l, oList_t, oTuple_l, oTuple_t, oBs_l, oSl_l, oSl_t, oIsi_ap, oIsi2_ap, tyD_n, tyD_b, tyD_i, tyD_s, tyD_t, tyD_l, tyD_f, truD_n, truD_b, truD_i, truD_t, truD_l, asB_b, asI_i, asL_l, isL_l, isL_t, isL_i, isL_b, isL_n, itD_l, itD_t, itD_f, fApp_ap, fExt_ap, ex_some, onS_ap, ite_t, ite_f, bodyD_ap, ioD_c, start_ap, isi_int_NoneType, isi_int_bool, isi_int_int, isi_int_str, isi_int_tuple, isi_int_list, isi_int_dict, isi_bool_NoneType, isi_bool_bool, isi_bool_int, isi_bool_str, isi_bool_tuple, isi_bool_list, isi_bool_dict, isi_str_NoneType, isi_str_bool, isi_str_int, isi_str_str, isi_str_tuple, isi_str_list, isi_str_dict, isi_list_NoneType, isi_list_bool, isi_list_int, isi_list_str, isi_list_tuple, isi_list_list, isi_list_dict, isi_tuple_NoneType, isi_tuple_bool, isi_tuple_int, isi_tuple_str, isi_tuple_tuple, isi_tuple_list, isi_tuple_dict, isi_dict_NoneType, isi_dict_bool, isi_dict_int, isi_dict_str, isi_dict_tuple, isi_dict_list, isi_dict_dict, List.map_cons, List.map_nil, List.cons_append, List.nil_append, List.length_cons, List.length_nil, List.replicate_succ, List.replicate_zero, Nat.reduceAdd, Nat.reduceSub, Nat.zero_add, true_and, and_true, Bool.not_true, Bool.not_false, Bool.true_or, Bool.or_true, Bool.false_or, Bool.or_false, if_true, if_false, Bool.false_eq_true])
              refine ⟨((rowsOf ss at_).map (·.1), xs), rfl, ⟨by show ((rowsOf ss at_).map (·.1)).length ≤ 1000000; rw [List.length_map]; omega, by show xs.length ≤ 100; omega, fun s hs => ?_⟩, ?_⟩
              · obtain ⟨rr, hr, rfl⟩ := List.mem_map.mp hs
                obtain ⟨s0, hs0, es⟩ := rows_pl p rr hr
                rw [es]
                exact right_pre hs0 hxn
              rintro r c' rfl
              have hkr := kept_rows p hxn hk
              (try simp only [wC_ap, wSetI_ap, wExpr_ap, wRet_ap, wRetN_ap, wRet0_ap, wIf_ap, wFor_ap, wWhile_ap, wBreak_ap, wCont_ap, wNever_ap, wPick_ap, wCallL_ap, wOp_ap, wIxO_ap, wNoPart_ap, wPart_ap, wSl_ap, wUn_ap, wTest_ap, wChain_ap, wTru_ap, wNotT_ap, wAndT_ap, wOrT_ap, wAnd_ap, wOr_ap, wNot_ap, wIfE_ap, wNil_ap, wCons_ap, wTup_ap, wLst_ap, wCall_ap, wCall0_ap, wCallIo_ap, wYes_ap, wGn_ap, wSr_ap, wEn_ap, wZp_ap, wRg1_ap, wRg2_ap, wLc_ap, wMeth_ap, wMeth0_ap, wNext_ap, wSeq_ap, wAsg_ap, wSet_ap, wV_ap, wPar_ap, par2_ap, wGnil_ap, wGcons_ap, wGtup_ap, sl_z, sl_s, set_z, set_s, wipe_z, wipe_s, rest_z, rest_s, oAdd_i, oAdd_t, oAdd_l, oAdd_s, oSub_i, oMul_i, oMul_t, oII_i, oII0_i, oIx_l, oIx_t, oIx_f, oIsN_n, oNotN_n, oLen_l, oLen_t, oLen_f, oInt_i, oInt_b, oI1_i, oNeg_i, oList_l, oList_t, oTuple_l, oTuple_t, oBs_l, oSl_l, oSl_t, oIsi_ap, oIsi2_ap, tyD_n, tyD_b, tyD_i, tyD_s, tyD_t, tyD_l, tyD_f, truD_n, truD_b, truD_i, truD_t, truD_l, asB_b, asI_i, asL_l, isL_l, isL_t, isL_i, isL_b, isL_n, itD_l, itD_t, itD_f, fApp_ap, fExt_ap, ex_some, onS_ap, ite_t, ite_f, bodyD_ap, ioD_c, start_ap, isi_int_NoneType, isi_int_bool, isi_int_int, isi_int_str, isi_int_tuple, isi_int_list, isi_int_dict, isi_bool_NoneType, isi_bool_bool, isi_bool_int, isi_bool_str, isi_bool_tuple, isi_bool_list, isi_bool_dict, isi_str_NoneType, isi_str_bool, isi_str_int, isi_str_str, isi_str_tuple, isi_str_list, isi_str_dict, isi_list_NoneType, isi_list_bool, isi_list_int, isi_list_str, isi_list_tuple, isi_list_list, isi_list_dict, isi_tuple_NoneType, isi_tuple_bool, isi_tuple_int, isi_tuple_str, isi_tuple_tuple, isi_tuple_list, isi_tuple_dict, isi_dict_NoneType, isi_dict_bool, isi_dict_int, isi_dict_str, isi_dict_tuple, isi_dict_list, isi_dict_dict, List.map_cons, List.map_nil, List.cons_append, List.nil_append, List.length_cons, List.length_nil, List.replicate_succ, List.replicate_zero, Nat.reduceAdd, Nat.reduceSub, Nat.zero_add, true_and, and_true, Bool.not_true, Bool.not_false, Bool.true_or, Bool.or_true, Bool.false_or, Bool.or_false, if_true, if_false, Bool.false_eq_true, hkr])
              exact hN _ ⟨v0, v1, v2, some d, _, rfl, hv1, hv2⟩
      · rintro ε ⟨b0, b1, b2, o7, o8, rfl, hb1, hb2⟩
        (try simp only [wC_ap, wSetI_ap, wExpr_ap, wRet_ap, wRetN_ap, wRet0_ap, wIf_ap, wFor_ap, wWhile_ap, wBreak_ap, wCont_ap, wNever_ap, wPick_ap, wCallL_ap, wOp_ap, wIxO_ap, wNoPart_ap, wPart_ap, wSl_ap, wUn_ap, wTest_ap, wChain_ap, wTru_ap, wNotT_ap, wAndT_ap, wOrT_ap, wAnd_ap, wOr_ap, wNot_ap, wIfE_ap, wNil_ap, wCons_ap, wTup_ap, wLst_ap, wCall_ap, wCall0_ap, wCallIo_ap, wYes_ap, wGn_ap, wSr_ap, wEn_ap, wZp_ap, wRg1_ap, wRg2_ap, wLc_ap, wMeth_ap, wMeth0_ap, wNext_ap, wSeq_ap, wAsg_ap, wSet_ap, wV_ap, wPar_ap, par2_ap, wGnil_ap, wGcons_ap, wGtup_ap, sl_z, sl_s, set_z, set_s, wipe_z, wipe_s, rest_z, rest_s, oAdd_i, oAdd_t, oAdd_l, oAdd_s, oSub_i, oMul_i, oMul_t, oII_i, oII0_i, oIx_l, oIx_t, oIx_f, oIsN_n, oNotN_n, oLen_l, oLen_t, oLen_f, oInt_i, oInt_b, oI1_i, oNeg_i, oList_l, oList_t, oTuple_l, oTuple_t, oBs_l, oSl_l, oSl_t, oIsi_ap, oIsi2_ap, tyD_n, tyD_b, tyD_i, tyD_s, tyD_t, tyD_l, tyD_f, truD_n, truD_b, truD_i, truD_t, truD_l, asB_b, asI_i, asL_l, isL_l, isL_t, isL_i, isL_b, isL_n, itD_l, itD_t, itD_f, fApp_ap, fExt_ap, ex_some, onS_ap, ite_t, ite_f, bodyD_ap, ioD_c, start_ap, isi_int_NoneType, isi_int_bool, isi_int_int, isi_int_str, isi_int_tuple, isi_int_list, isi_int_dict, isi_bool_NoneType, isi_bool_bool, isi_bool_int, isi_bool_str, isi_bool_tuple, isi_bool_list, isi_bool_dict, isi_str_NoneType, isi_str_bool, isi_str_int, isi_str_str, isi_str_tuple, isi_str_list, isi_str_dict, isi_list_NoneType, isi_list_bool, isi_list_int, isi_list_str, isi_list_tuple, isi_list_list, isi_list_dict, isi_tuple_NoneType, isi_tuple_bool, isi_tuple_int, isi_tuple_str, isi_tuple_tuple, isi_tuple_list, isi_tuple_dict, isi_dict_NoneType, isi_dict_bool, isi_dict_int, isi_dict_str, isi_dict_tuple, isi_dict_list, isi_dict_dict, List.map_cons, List.map_nil, List.cons_append, List.nil_append, List.length_cons, List.length_nil, List.replicate_succ, List.replicate_zero, Nat.reduceAdd, Nat.reduceSub, Nat.zero_add, true_and, and_true, Bool.not_true, Bool.not_false, Bool.true_or, Bool.or_true, Bool.false_or, Bool.or_false, if_true, if_false, Bool.false_eq_true])
        exact q _ _ ⟨rfl, _, _, _, rfl, hb1, hb2⟩
end K51
set_option Elab.async false
set_option linter.all false
set_option maxRecDepth 100000
set_option maxHeartbeats 4000000
namespace K51
open PySem PySem.Spec L2 DL
open PyProof.Rows hiding St
theorem sums_cast {ss : List (List Int)} {n k at_ : Nat} (h : Sums ss n k) (k1 : 1 ≤ k) (k60 : k ≤ 60) (n10 : n ≤ 10) (ha : at_ < n) : CastOk ss n at_ :=
  ⟨fun e => by have := h.num; rw [e] at this; simp at this; omega, by have := h.num; omega, h.len, n10, ha, h.sm⟩
def last2 (s : List Int) : List Int := s.drop (s.length - 2)
theorem last2_split {s : List Int} (h : 2 ≤ s.length) : ∃ (r : List Int) (u v : Int), s = r ++ [u, v] ∧ last2 s = [u, v] := by
  have e := List.take_append_drop (s.length - 2) s
  have hl : (s.drop (s.length - 2)).length = 2 := by rw [List.length_drop]; omega
  match hd : s.drop (s.length - 2), hl with
  | [u, v], _ => exact ⟨s.take (s.length - 2), u, v, by rw [← hd, e], hd⟩
theorem sl_last2 {s : List Int} {P : D → Prop} (h : 2 ≤ s.length) : oSl (some (-2)) none (tI s) P = P (tI (last2 s)) := by
  obtain ⟨r, u, v, e, e2⟩ := last2_split h
  rw [e2, e]
  unfold tI
  rw [oSl_t, List.map_append]
  have : DL.cutD (r.map D.int ++ [D.int u, D.int v]) (some (-2)) none = [D.int u, D.int v] := cut_m2 _ _ _
  show P (.tup (DL.cutD (r.map D.int ++ [D.int u, D.int v]) (some (-2)) none)) = _
  rw [this]; rfl
theorem sums_last {ss : List (List Int)} {n k : Nat} (h : Sums ss n k) (hn : 1 ≤ n) : Sums (ss.map last2) 1 k := by
  refine ⟨by rw [List.length_map]; exact h.num, fun s hs => ?_, fun s hs z hz => ?_⟩
  · obtain ⟨t, ht, rfl⟩ := List.mem_map.mp hs
    obtain ⟨r, u, v, e, e2⟩ := last2_split (s := t) (by rw [h.len t ht]; omega)
    rw [e2]; rfl
  · obtain ⟨t, ht, rfl⟩ := List.mem_map.mp hs
    exact h.sm t ht z (List.mem_of_mem_drop hz)
theorem h_law : ∀ ds EF PF, f_law ds EF PF → ds.length = 1 ∧ bodyD 8 b_law ds EF PF := by
  rintro ds EF PF ⟨ns, rfl, p, q⟩
  refine ⟨rfl, ?_⟩
  have p : ns.length ≤ 63 := p
  unfold b_law
  (try simp only [wC_ap, wSetI_ap, wExpr_ap, wRet_ap, wRetN_ap, wRet0_ap, wIf_ap, wFor_ap, wWhile_ap, wBreak_ap, wCont_ap, wNever_ap, wPick_ap, wCallL_ap, wOp_ap, wIxO_ap, wNoPart_ap, wPart_ap, wSl_ap, wUn_ap, wTest_ap, wChain_ap, wTru_ap, wNotT_ap, wAndT_ap, wOrT_ap, wAnd_ap, wOr_ap, wNot_ap, wIfE_ap, wNil_ap, wCons_ap, wTup_ap, wLst_ap, wCall_ap, wCall0_ap, wCallIo_ap, wYes_ap, wGn_ap, wSr_ap, wEn_ap, wZp_ap, wRg1_ap, wRg2_ap, wLc_ap, wMeth_ap, wMeth0_ap, wNext_ap, wSeq_ap, wAsg_ap, wSet_ap, wV_ap, wPar_ap, par2_ap, wGnil_ap, wGcons_ap, wGtup_ap, sl_z, sl_s, set_z, set_s, wipe_z, wipe_s, rest_z, rest_s, oAdd_i, oAdd_t, oAdd_l, oAdd_s, oSub_i, oMul_i, oMul_t, oII_i, oII0_i, oIx_l, oIx_t, oIx_f, oIsN_n, oNotN_n, oLen_l, oLen_t, oLen_f, oInt_i, oInt_b, oI1_i, oNeg_i, oList_l, oList_t, oTuple_l, oTuple_t, oBs_l, oSl_l, oSl_t, oIsi_ap, oIsi2_ap, tyD_n, tyD_b, tyD_i, tyD_s, tyD_t, tyD_l, tyD_f, truD_n, truD_b, truD_i, truD_t, truD_l, asB_b, asI_i, asL_l, isL_l, isL_t, isL_i, isL_b, isL_n, itD_l, itD_t, itD_f, fApp_ap, fExt_ap, ex_some, onS_ap, ite_t, ite_f, bodyD_ap, ioD_c, start_ap, isi_int_NoneType, isi_int_bool, isi_int_int, isi_int_str, isi_int_tuple, isi_int_list, isi_int_dict, isi_bool_NoneType, isi_bool_bool, isi_bool_int, isi_bool_str, isi_bool_tuple, isi_bool_list, isi_bool_dict, isi_str_NoneType, isi_str_bool, isi_str_int, isi_str_str, isi_str_tuple, isi_str_list, isi_str_dict, isi_list_NoneType, isi_list_bool, isi_list_int, isi_list_str, isi_list_tuple, isi_list_list, isi_list_dict, isi_tuple_NoneType, isi_tuple_bool, isi_tuple_int, isi_tuple_str, isi_tuple_tuple, isi_tuple_list, isi_tuple_dict, isi_dict_NoneType, isi_dict_bool, isi_dict_int, isi_dict_str, isi_dict_tuple, isi_dict_list, isi_dict_dict, List.map_cons, List.map_nil, List.cons_append, List.nil_append, List.length_cons, List.length_nil, List.replicate_succ, List.replicate_zero, Nat.reduceAdd, Nat.reduceSub, Nat.zero_add, true_and, and_true, Bool.not_true, Bool.not_false, Bool.true_or, Bool.or_true, Bool.false_or, Bool.or_false, if_true, if_false, Bool.false_eq_true, List.length_map])
  refine ⟨?_, ?_⟩
  · have hb : ∀ a : Int, -100 ≤ a → a ≤ 100 → in62 a := fun a h1 h2 => ⟨by omega, by omega⟩
    split <;> split <;> exact hb _ (by omega) (by omega)
  refine for_inv (fun pre ε => ∃ o1 o2 o3 o4 o5 o6, ε = [some (.frz (ns.map D.int)), o1, o2, o3, o4, o5, o6, none]) ?_ ?_ ⟨none, none, none, none, none, none, rfl⟩
  · rintro pre d r ε e ⟨o1, o2, o3, o4, o5, o6, rfl⟩ N hN
    have hd : ∃ i : Nat, d = .int i := by
      obtain ⟨i, _, e⟩ := mem_rg (d := d) (by rw [e]; simp)
      exact ⟨i, by rw [e, Int.zero_add]⟩
    obtain ⟨i, rfl⟩ := hd
    (try simp only [wC_ap, wSetI_ap, wExpr_ap, wRet_ap, wRetN_ap, wRet0_ap, wIf_ap, wFor_ap, wWhile_ap, wBreak_ap, wCont_ap, wNever_ap, wPick_ap, wCallL_ap, wOp_ap, wIxO_ap, wNoPart_ap, wPart_ap, wSl_ap, wUn_ap, wTest_ap, wChain_ap, wTru_ap, wNotT_ap, wAndT_ap, wOrT_ap, wAnd_ap, wOr_ap, wNot_ap, wIfE_ap, wNil_ap, wCons_ap, wTup_ap, wLst_ap, wCall_ap, wCall0_ap, wCallIo_ap, wYes_ap, wGn_ap, wSr_ap, wEn_ap, wZp_ap, wRg1_ap, wRg2_ap, wLc_ap, wMeth_ap, wMeth0_ap, wNext_ap, wSeq_ap, wAsg_ap, wSet_ap, wV_ap, wPar_ap, par2_ap, wGnil_ap, wGcons_ap, wGtup_ap, sl_z, sl_s, set_z, set_s, wipe_z, wipe_s, rest_z, rest_s, oAdd_i, oAdd_t, oAdd_l, oAdd_s, oSub_i, oMul_i, oMul_t, oII_i, oII0_i, oIx_l, oIx_t, oIx_f, oIsN_n, oNotN_n, oLen_l, oLen_t, oLen_f, oInt_i, oInt_b, oI1_i, oNeg_i, oList_l, oList_t, oTuple_l, oTuple_t, oBs_l, oSl_l, oSl_t, oIsi_ap, oIsi2_ap, tyD_n, tyD_b, tyD_i, tyD_s, tyD_t, tyD_l, tyD_f, truD_n, truD_b, truD_i, truD_t, truD_l, asB_b, asI_i, asL_l, isL_l, isL_t, isL_i, isL_b, isL_n, itD_l, itD_t, itD_f, fApp_ap, fExt_ap, ex_some, onS_ap, ite_t, ite_f, bodyD_ap, ioD_c, start_ap, isi_int_NoneType, isi_int_bool, isi_int_int, isi_int_str, isi_int_tuple, isi_int_list, isi_int_dict, isi_bool_NoneType, isi_bool_bool, isi_bool_int, isi_bool_str, isi_bool_tuple, isi_bool_list, isi_bool_dict, isi_str_NoneType, isi_str_bool, isi_str_int, isi_str_str, isi_str_tuple, isi_str_list, isi_str_dict, isi_list_NoneType, isi_list_bool, isi_list_int, isi_list_str, isi_list_tuple, isi_list_list, isi_list_dict, isi_tuple_NoneType, isi_tuple_bool, isi_tuple_int, isi_tuple_str, isi_tuple_tuple, isi_tuple_list, isi_tuple_dict, isi_dict_NoneType, isi_dict_bool, isi_dict_int, isi_dict_str, isi_dict_tuple, isi_dict_list, isi_dict_dict, List.map_cons, List.map_nil, List.cons_append, List.nil_append, List.length_cons, List.length_nil, List.replicate_succ, List.replicate_zero, Nat.reduceAdd, Nat.reduceSub, Nat.zero_add, true_and, and_true, Bool.not_true, Bool.not_false, Bool.true_or, Bool.or_true, Bool.false_or, Bool.or_false, if_true, if_false, Bool.false_eq_true])
    refine ⟨(ns, i), rfl, trivial, ?_⟩
    rintro r c' ⟨zc, rfl⟩
    refine ⟨zc, rfl, trivial, ?_⟩
    rintro r c' ⟨a0, a1, a2, rfl, ha1, ha2⟩
    (try simp only [wC_ap, wSetI_ap, wExpr_ap, wRet_ap, wRetN_ap, wRet0_ap, wIf_ap, wFor_ap, wWhile_ap, wBreak_ap, wCont_ap, wNever_ap, wPick_ap, wCallL_ap, wOp_ap, wIxO_ap, wNoPart_ap, wPart_ap, wSl_ap, wUn_ap, wTest_ap, wChain_ap, wTru_ap, wNotT_ap, wAndT_ap, wOrT_ap, wAnd_ap, wOr_ap, wNot_ap, wIfE_ap, wNil_ap, wCons_ap, wTup_ap, wLst_ap, wCall_ap, wCall0_ap, wCallIo_ap, wYes_ap, wGn_ap, wSr_ap, wEn_ap, wZp_ap, wRg1_ap, wRg2_ap, wLc_ap, wMeth_ap, wMeth0_ap, wNext_ap, wSeq_ap, wAsg_ap, wSet_ap, wV_ap, wPar_ap, par2_ap, wGnil_ap, wGcons_ap, wGtup_ap, sl_z, sl_s, set_z, set_s, wipe_z, wipe_s, rest_z, rest_s, oAdd_i, oAdd_t, oAdd_l, oAdd_s, oSub_i, oMul_i, oMul_t, oII_i, oII0_i, oIx_l, oIx_t, oIx_f, oIsN_n, oNotN_n, oLen_l, oLen_t, oLen_f, oInt_i, oInt_b, oI1_i, oNeg_i, oList_l, oList_t, oTuple_l, oTuple_t, oBs_l, oSl_l, oSl_t, oIsi_ap, oIsi2_ap, tyD_n, tyD_b, tyD_i, tyD_s, tyD_t, tyD_l, tyD_f, truD_n, truD_b, truD_i, truD_t, truD_l, asB_b, asI_i, asL_l, isL_l, isL_t, isL_i, isL_b, isL_n, itD_l, itD_t, itD_f, fApp_ap, fExt_ap, ex_some, onS_ap, ite_t, ite_f, bodyD_ap, ioD_c, start_ap, isi_int_NoneType, isi_int_bool, isi_int_int, isi_int_str, isi_int_tuple, isi_int_list, isi_int_dict, isi_bool_NoneType, isi_bool_bool, isi_bool_int, isi_bool_str, isi_bool_tuple, isi_bool_list, isi_bool_dict, isi_str_NoneType, isi_str_bool, isi_str_int, isi_str_str, isi_str_tuple, isi_str_list, isi_str_dict, isi_list_NoneType, isi_list_bool, isi_list_int, isi_list_str, isi_list_tuple, isi_list_list, isi_list_dict, isi_tuple_NoneType, isi_tuple_bool, isi_tuple_int, isi_tuple_str, isi_tuple_tuple, isi_tuple_list, isi_tuple_dict, isi_dict_NoneType, isi_dict_bool, isi_dict_int, isi_dict_str, isi_dict_tuple, isi_dict_list, isi_dict_dict, List.map_cons, List.map_nil, List.cons_append, List.nil_append, List.length_cons, List.length_nil, List.replicate_succ, List.replicate_zero, Nat.reduceAdd, Nat.reduceSub, Nat.zero_add, true_and, and_true, Bool.not_true, Bool.not_false, Bool.true_or, Bool.or_true, Bool.false_or, Bool.or_false, if_true, if_false, Bool.false_eq_true])
    refine ⟨(.lst [.int a0, .int a1, .int a2], 5), rfl, tkp ha1 ha2 (by decide) (by decide), ?_⟩
    rintro r c' ⟨⟨z5, rfl, hz5⟩, c0, c1, c2, rfl, hc1, hc2⟩
    have hz5 : (z5 : Int) < 5 := hz5
    (try simp only [wC_ap, wSetI_ap, wExpr_ap, wRet_ap, wRetN_ap, wRet0_ap, wIf_ap, wFor_ap, wWhile_ap, wBreak_ap, wCont_ap, wNever_ap, wPick_ap, wCallL_ap, wOp_ap, wIxO_ap, wNoPart_ap, wPart_ap, wSl_ap, wUn_ap, wTest_ap, wChain_ap, wTru_ap, wNotT_ap, wAndT_ap, wOrT_ap, wAnd_ap, wOr_ap, wNot_ap, wIfE_ap, wNil_ap, wCons_ap, wTup_ap, wLst_ap, wCall_ap, wCall0_ap, wCallIo_ap, wYes_ap, wGn_ap, wSr_ap, wEn_ap, wZp_ap, wRg1_ap, wRg2_ap, wLc_ap, wMeth_ap, wMeth0_ap, wNext_ap, wSeq_ap, wAsg_ap, wSet_ap, wV_ap, wPar_ap, par2_ap, wGnil_ap, wGcons_ap, wGtup_ap, sl_z, sl_s, set_z, set_s, wipe_z, wipe_s, rest_z, rest_s, oAdd_i, oAdd_t, oAdd_l, oAdd_s, oSub_i, oMul_i, oMul_t, oII_i, oII0_i, oIx_l, oIx_t, oIx_f, oIsN_n, oNotN_n, oLen_l, oLen_t, oLen_f, oInt_i, oInt_b, oI1_i, oNeg_i, oList_l, oList_t, oTuple_l, oTuple_t, oBs_l, oSl_l, oSl_t, oIsi_ap, oIsi2_ap, tyD_n, tyD_b, tyD_i, tyD_s, tyD_t, tyD_l, tyD_f, truD_n, truD_b, truD_i, truD_t, truD_l, asB_b, asI_i, asL_l, isL_l, isL_t, isL_i, isL_b, isL_n, itD_l, itD_t, itD_f, fApp_ap, fExt_ap, ex_some, onS_ap, ite_t, ite_f, bodyD_ap, ioD_c, start_ap, isi_int_NoneType, isi_int_bool, isi_int_int, isi_int_str, isi_int_tuple, isi_int_list, isi_int_dict, isi_bool_NoneType, isi_bool_bool, isi_bool_int, isi_bool_str, isi_bool_tuple, isi_bool_list, isi_bool_dict, isi_str_NoneType, isi_str_bool, isi_str_int, isi_str_str, isi_str_tuple, isi_str_list, isi_str_dict, isi_list_NoneType, isi_list_bool, isi_list_int, isi_list_str, isi_list_tuple, isi_list_list, isi_list_dict, isi_tuple_NoneType, isi_tuple_bool, isi_tuple_int, isi_tuple_str, isi_tuple_tuple, isi_tuple_list, isi_tuple_dict, isi_dict_NoneType, isi_dict_bool, isi_dict_int, isi_dict_str, isi_dict_tuple, isi_dict_list, isi_dict_dict, List.map_cons, List.map_nil, List.cons_append, List.nil_append, List.length_cons, List.length_nil, List.replicate_succ, List.replicate_zero, Nat.reduceAdd, Nat.reduceSub, Nat.zero_add, true_and, and_true, Bool.not_true, Bool.not_false, Bool.true_or, Bool.or_true, Bool.false_or, Bool.or_false, if_true, if_false, Bool.false_eq_true])
    refine ⟨(.lst [.int c0, .int c1, .int c2], 12), rfl, tkp hc1 hc2 (by decide) (by decide), ?_⟩
    rintro r c' ⟨⟨z12, rfl, hz12⟩, d0, d1, d2, rfl, hd1, hd2⟩
    have hz12 : (z12 : Int) < 12 := hz12
    (try simp only [wC_ap, wSetI_ap, wExpr_ap, wRet_ap, wRetN_ap, wRet0_ap, wIf_ap, wFor_ap, wWhile_ap, wBreak_ap, wCont_ap, wNever_ap, wPick_ap, wCallL_ap, wOp_ap, wIxO_ap, wNoPart_ap, wPart_ap, wSl_ap, wUn_ap, wTest_ap, wChain_ap, wTru_ap, wNotT_ap, wAndT_ap, wOrT_ap, wAnd_ap, wOr_ap, wNot_ap, wIfE_ap, wNil_ap, wCons_ap, wTup_ap, wLst_ap, wCall_ap, wCall0_ap, wCallIo_ap, wYes_ap, wGn_ap, wSr_ap, wEn_ap, wZp_ap, wRg1_ap, wRg2_ap, wLc_ap, wMeth_ap, wMeth0_ap, wNext_ap, wSeq_ap, wAsg_ap, wSet_ap, wV_ap, wPar_ap, par2_ap, wGnil_ap, wGcons_ap, wGtup_ap, sl_z, sl_s, set_z, set_s, wipe_z, wipe_s, rest_z, rest_s, oAdd_i, oAdd_t, oAdd_l, oAdd_s, oSub_i, oMul_i, oMul_t, oII_i, oII0_i, oIx_l, oIx_t, oIx_f, oIsN_n, oNotN_n, oLen_l, oLen_t, oLen_f, oInt_i, oInt_b, oI1_i, oNeg_i, oList_l, oList_t, oTuple_l, oTuple_t, oBs_l, oSl_l, oSl_t, oIsi_ap, oIsi2_ap, tyD_n, tyD_b, tyD_i, tyD_s, tyD_t, tyD_l, tyD_f, truD_n, truD_b, truD_i, truD_t, truD_l, asB_b, asI_i, asL_l, isL_l, isL_t, isL_i, isL_b, isL_n, itD_l, itD_t, itD_f, fApp_ap, fExt_ap, ex_some, onS_ap, ite_t, ite_f, bodyD_ap, ioD_c, start_ap, isi_int_NoneType, isi_int_bool, isi_int_int, isi_int_str, isi_int_tuple, isi_int_list, isi_int_dict, isi_bool_NoneType, isi_bool_bool, isi_bool_int, isi_bool_str, isi_bool_tuple, isi_bool_list, isi_bool_dict, isi_str_NoneType, isi_str_bool, isi_str_int, isi_str_str, isi_str_tuple, isi_str_list, isi_str_dict, isi_list_NoneType, isi_list_bool, isi_list_int, isi_list_str, isi_list_tuple, isi_list_list, isi_list_dict, isi_tuple_NoneType, isi_tuple_bool, isi_tuple_int, isi_tuple_str, isi_tuple_tuple, isi_tuple_list, isi_tuple_dict, isi_dict_NoneType, isi_dict_bool, isi_dict_int, isi_dict_str, isi_dict_tuple, isi_dict_list, isi_dict_dict, List.map_cons, List.map_nil, List.cons_append, List.nil_append, List.length_cons, List.length_nil, List.replicate_succ, List.replicate_zero, Nat.reduceAdd, Nat.reduceSub, Nat.zero_add, true_and, and_true, Bool.not_true, Bool.not_false, Bool.true_or, Bool.or_true, Bool.false_or, Bool.or_false, if_true, if_false, Bool.false_eq_true])
    refine ⟨(.lst [.int d0, .int d1, .int d2], 8), rfl, tkp hd1 hd2 (by decide) (by decide), ?_⟩
    rintro r c' ⟨⟨z8, rfl, hz8⟩, e0, e1, e2, rfl, he1, he2⟩
    refine ⟨okD_int _ _, okD_int _ _, ?_⟩
    rw [eqD_int, show (1 : Int) + (z5 : Int) = ((1 + z5 : Nat) : Int) by omega, show (1 : Int) + (z12 : Int) = ((1 + z12 : Nat) : Int) by omega]
    by_cases h8 : ((z8 : Nat) : Int) = 0
    · rw [decide_eq_true h8]
      (try simp only [wC_ap, wSetI_ap, wExpr_ap, wRet_ap, wRetN_ap, wRet0_ap, wIf_ap, wFor_ap, wWhile_ap, wBreak_ap, wCont_ap, wNever_ap, wPick_ap, wCallL_ap, wOp_ap, wIxO_ap, wNoPart_ap, wPart_ap, wSl_ap, wUn_ap, wTest_ap, wChain_ap, wTru_ap, wNotT_ap, wAndT_ap, wOrT_ap, wAnd_ap, wOr_ap, wNot_ap, wIfE_ap, wNil_ap, wCons_ap, wTup_ap, wLst_ap, wCall_ap, wCall0_ap, wCallIo_ap, wYes_ap, wGn_ap, wSr_ap, wEn_ap, wZp_ap, wRg1_ap, wRg2_ap, wLc_ap, wMeth_ap, wMeth0_ap, wNext_ap, wSeq_ap, wAsg_ap, wSet_ap, wV_ap, wPar_ap, par2_ap, wGnil_ap, wGcons_ap, wGtup_ap, sl_z, sl_s, set_z, set_s, wipe_z, wipe_s, rest_z, rest_s, oAdd_i, oAdd_t, oAdd_l, oAdd_s, oSub_i, oMul_i, oMul_t, oII_i, oII0_i, oIx_l, oIx_t, oIx_f, oIsN_n, oNotN_n, oLen_l, oLen_t, oLen_f, oInt_i, oInt_b, oI1_i, oNeg_i, oList_l, oList_t, oTuple_l, oTuple_t, oBs_l, oSl_l, oSl_t, oIsi_ap, oIsi2_ap, tyD_n, tyD_b, tyD_i, tyD_s, tyD_t, tyD_l, tyD_f, truD_n, truD_b, truD_i, truD_t, truD_l, asB_b, asI_i, asL_l, isL_l, isL_t, isL_i, isL_b, isL_n, itD_l, itD_t, itD_f, fApp_ap, fExt_ap, ex_some, onS_ap, ite_t, ite_f, bodyD_ap, ioD_c, start_ap, isi_int_NoneType, isi_int_bool, isi_int_int, isi_int_str, isi_int_tuple, isi_int_list, isi_int_dict, isi_bool_NoneType, isi_bool_bool, isi_bool_int, isi_bool_str, isi_bool_tuple, isi_bool_list, isi_bool_dict, isi_str_NoneType, isi_str_bool, isi_str_int, isi_str_str, isi_str_tuple, isi_str_list, isi_str_dict, isi_list_NoneType, isi_list_bool, isi_list_int, isi_list_str, isi_list_tuple, isi_list_list, isi_list_dict, isi_tuple_NoneType, isi_tuple_bool, isi_tuple_int, isi_tuple_str, isi_tuple_tuple, isi_tuple_list, isi_tuple_dict, isi_dict_NoneType, isi_dict_bool, isi_dict_int, isi_dict_str, isi_dict_tuple, isi_dict_list, isi_dict_dict, List.map_cons, List.map_nil, List.cons_append, List.nil_append, List.length_cons, List.length_nil, List.replicate_succ, List.replicate_zero, Nat.reduceAdd, Nat.reduceSub, Nat.zero_add, true_and, and_true, Bool.not_true, Bool.not_false, Bool.true_or, Bool.or_true, Bool.false_or, Bool.or_false, if_true, if_false, Bool.false_eq_true])
      refine ⟨small_z (by decide), ?_⟩

      refine ⟨(.lst [.int e0, .int e1, .int e2], 10, 60), rfl, ⟨⟨_, _, _, rfl, he1, he2⟩, by show 1 ≤ 10; omega, by show 10 ≤ 10; omega, by show 1 ≤ 60; omega, by show 60 ≤ 60; omega⟩, ?_⟩
      rintro r c' ⟨⟨ss, rfl, hS⟩, f0, f1, f2, rfl, hf1, hf2⟩
      have hS : Sums ss 10 60 := hS
      (try simp only [wC_ap, wSetI_ap, wExpr_ap, wRet_ap, wRetN_ap, wRet0_ap, wIf_ap, wFor_ap, wWhile_ap, wBreak_ap, wCont_ap, wNever_ap, wPick_ap, wCallL_ap, wOp_ap, wIxO_ap, wNoPart_ap, wPart_ap, wSl_ap, wUn_ap, wTest_ap, wChain_ap, wTru_ap, wNotT_ap, wAndT_ap, wOrT_ap, wAnd_ap, wOr_ap, wNot_ap, wIfE_ap, wNil_ap, wCons_ap, wTup_ap, wLst_ap, wCall_ap, wCall0_ap, wCallIo_ap, wYes_ap, wGn_ap, wSr_ap, wEn_ap, wZp_ap, wRg1_ap, wRg2_ap, wLc_ap, wMeth_ap, wMeth0_ap, wNext_ap, wSeq_ap, wAsg_ap, wSet_ap, wV_ap, wPar_ap, par2_ap, wGnil_ap, wGcons_ap, wGtup_ap, sl_z, sl_s, set_z, set_s, wipe_z, wipe_s, rest_z, rest_s, oAdd_i, oAdd_t, oAdd_l, oAdd_s, oSub_i, oMul_i, oMul_t, oII_i, oII0_i, oIx_l, oIx_t, oIx_f, oIsN_n, oNotN_n, oLen_l, oLen_t, oLen_f, oInt_i, oInt_b, oI1_i, oNeg_i, oList_l, oList_t, oTuple_l, oTuple_t, oBs_l, oSl_l, oSl_t, oIsi_ap, oIsi2_ap, tyD_n, tyD_b, tyD_i, tyD_s, tyD_t, tyD_l, tyD_f, truD_n, truD_b, truD_i, truD_t, truD_l, asB_b, asI_i, asL_l, isL_l, isL_t, isL_i, isL_b, isL_n, itD_l, itD_t, itD_f, fApp_ap, fExt_ap, ex_some, onS_ap, ite_t, ite_f, bodyD_ap, ioD_c, start_ap, isi_int_NoneType, isi_int_bool, isi_int_int, isi_int_str, isi_int_tuple, isi_int_list, isi_int_dict, isi_bool_NoneType, isi_bool_bool, isi_bool_int, isi_bool_str, isi_bool_tuple, isi_bool_list, isi_bool_dict, isi_str_NoneType, isi_str_bool, isi_str_int, isi_str_str, isi_str_tuple, isi_str_list, isi_str_dict, isi_list_NoneType, isi_list_bool, isi_list_int, isi_list_str, isi_list_tuple, isi_list_list, isi_list_dict, isi_tuple_NoneType, isi_tuple_bool, isi_tuple_int, isi_tuple_str, isi_tuple_tuple, isi_tuple_list, isi_tuple_dict, isi_dict_NoneType, isi_dict_bool, isi_dict_int, isi_dict_str, isi_dict_tuple, isi_dict_list, isi_dict_dict, List.map_cons, List.map_nil, List.cons_append, List.nil_append, List.length_cons, List.length_nil, List.replicate_succ, List.replicate_zero, Nat.reduceAdd, Nat.reduceSub, Nat.zero_add, true_and, and_true, Bool.not_true, Bool.not_false, Bool.true_or, Bool.or_true, Bool.false_or, Bool.or_false, if_true, if_false, Bool.false_eq_true])
      refine ⟨(.lst [.int f0, .int f1, .int f2], 8), rfl, tkp hf1 hf2 (by decide) (by decide), ?_⟩
      rintro r c' ⟨⟨z8', rfl, hz8'⟩, g0, g1, g2, rfl, hg1, hg2⟩
      refine ⟨okD_int _ _, okD_int _ _, ?_⟩
      rw [eqD_int]
      by_cases h8' : ((z8' : Nat) : Int) = 0
      · rw [decide_eq_true h8']
        (try simp only [wC_ap, wSetI_ap, wExpr_ap, wRet_ap, wRetN_ap, wRet0_ap, wIf_ap, wFor_ap, wWhile_ap, wBreak_ap, wCont_ap, wNever_ap, wPick_ap, wCallL_ap, wOp_ap, wIxO_ap, wNoPart_ap, wPart_ap, wSl_ap, wUn_ap, wTest_ap, wChain_ap, wTru_ap, wNotT_ap, wAndT_ap, wOrT_ap, wAnd_ap, wOr_ap, wNot_ap, wIfE_ap, wNil_ap, wCons_ap, wTup_ap, wLst_ap, wCall_ap, wCall0_ap, wCallIo_ap, wYes_ap, wGn_ap, wSr_ap, wEn_ap, wZp_ap, wRg1_ap, wRg2_ap, wLc_ap, wMeth_ap, wMeth0_ap, wNext_ap, wSeq_ap, wAsg_ap, wSet_ap, wV_ap, wPar_ap, par2_ap, wGnil_ap, wGcons_ap, wGtup_ap, sl_z, sl_s, set_z, set_s, wipe_z, wipe_s, rest_z, rest_s, oAdd_i, oAdd_t, oAdd_l, oAdd_s, oSub_i, oMul_i, oMul_t, oII_i, oII0_i, oIx_l, oIx_t, oIx_f, oIsN_n, oNotN_n, oLen_l, oLen_t, oLen_f, oInt_i, oInt_b, oI1_i, oNeg_i, oList_l, oList_t, oTuple_l, oTuple_t, oBs_l, oSl_l, oSl_t, oIsi_ap, oIsi2_ap, tyD_n, tyD_b, tyD_i, tyD_s, tyD_t, tyD_l, tyD_f, truD_n, truD_b, truD_i, truD_t, truD_l, asB_b, asI_i, asL_l, isL_l, isL_t, isL_i, isL_b, isL_n, itD_l, itD_t, itD_f, fApp_ap, fExt_ap, ex_some, onS_ap, ite_t, ite_f, bodyD_ap, ioD_c, start_ap, isi_int_NoneType, isi_int_bool, isi_int_int, isi_int_str, isi_int_tuple, isi_int_list, isi_int_dict, isi_bool_NoneType, isi_bool_bool, isi_bool_int, isi_bool_str, isi_bool_tuple, isi_bool_list, isi_bool_dict, isi_str_NoneType, isi_str_bool, isi_str_int, isi_str_str, isi_str_tuple, isi_str_list, isi_str_dict, isi_list_NoneType, isi_list_bool, isi_list_int, isi_list_str, isi_list_tuple, isi_list_list, isi_list_dict, isi_tuple_NoneType, isi_tuple_bool, isi_tuple_int, isi_tuple_str, isi_tuple_tuple, isi_tuple_list, isi_tuple_dict, isi_dict_NoneType, isi_dict_bool, isi_dict_int, isi_dict_str, isi_dict_tuple, isi_dict_list, isi_dict_dict, List.map_cons, List.map_nil, List.cons_append, List.nil_append, List.length_cons, List.length_nil, List.replicate_succ, List.replicate_zero, Nat.reduceAdd, Nat.reduceSub, Nat.zero_add, true_and, and_true, Bool.not_true, Bool.not_false, Bool.true_or, Bool.or_true, Bool.false_or, Bool.or_false, if_true, if_false, Bool.false_eq_true])
        refine ⟨by rw [List.length_map, hS.num]; exact small_z (by omega), lc_map (fun d => tI (last2 (intsD d))) ?_ ?_⟩
        · intro d hd K1 h1
          obtain ⟨s, hs, rfl⟩ := List.mem_map.mp hd
          have hl := hS.len s hs
          (try simp only [wC_ap, wSetI_ap, wExpr_ap, wRet_ap, wRetN_ap, wRet0_ap, wIf_ap, wFor_ap, wWhile_ap, wBreak_ap, wCont_ap, wNever_ap, wPick_ap, wCallL_ap, wOp_ap, wIxO_ap, wNoPart_ap, wPart_ap, wSl_ap, wUn_ap, wTest_ap, wChain_ap, wTru_ap, wNotT_ap, wAndT_ap, wOrT_ap, wAnd_ap, wOr_ap, wNot_ap, wIfE_ap, wNil_ap, wCons_ap, wTup_ap, wLst_ap, wCall_ap, wCall0_ap, wCallIo_ap, wYes_ap, wGn_ap, wSr_ap, wEn_ap, wZp_ap, wRg1_ap, wRg2_ap, wLc_ap, wMeth_ap, wMeth0_ap, wNext_ap, wSeq_ap, wAsg_ap, wSet_ap, wV_ap, wPar_ap, par2_ap, wGnil_ap, wGcons_ap, wGtup_ap, sl_z, sl_s, set_z, set_s, wipe_z, wipe_s, rest_z, rest_s, oAdd_i, oAdd_t, oAdd_l, oAdd_s, oSub_i, oMul_i, oMul_t, oII_i, oII0_i, oIx_l, oIx_t, oIx_f, oIsN_n, oNotN_n, oLen_l, oLen_t, oLen_f, oInt_i, oInt_b, oI1_i, oNeg_i, oList_l, oList_t, oTuple_l, oTuple_t, oBs_l, oSl_l, oSl_t, oIsi_ap, oIsi2_ap, tyD_n, tyD_b, tyD_i, tyD_s, tyD_t, tyD_l, tyD_f, truD_n, truD_b, truD_i, truD_t, truD_l, asB_b, asI_i, asL_l, isL_l, isL_t, isL_i, isL_b, isL_n, itD_l, itD_t, itD_f, fApp_ap, fExt_ap, ex_some, onS_ap, ite_t, ite_f, bodyD_ap, ioD_c, start_ap, isi_int_NoneType, isi_int_bool, isi_int_int, isi_int_str, isi_int_tuple, isi_int_list, isi_int_dict, isi_bool_NoneType, isi_bool_bool, isi_bool_int, isi_bool_str, isi_bool_tuple, isi_bool_list, isi_bool_dict, isi_str_NoneType, isi_str_bool, isi_str_int, isi_str_str, isi_str_tuple, isi_str_list, isi_str_dict, isi_list_NoneType, isi_list_bool, isi_list_int, isi_list_str, isi_list_tuple, isi_list_list, isi_list_dict, isi_tuple_NoneType, isi_tuple_bool, isi_tuple_int, isi_tuple_str, isi_tuple_tuple, isi_tuple_list, isi_tuple_dict, isi_dict_NoneType, isi_dict_bool, isi_dict_int, isi_dict_str, isi_dict_tuple, isi_dict_list, isi_dict_dict, List.map_cons, List.map_nil, List.cons_append, List.nil_append, List.length_cons, List.length_nil, List.replicate_succ, List.replicate_zero, Nat.reduceAdd, Nat.reduceSub, Nat.zero_add, true_and, and_true, Bool.not_true, Bool.not_false, Bool.true_or, Bool.or_true, Bool.false_or, Bool.or_false, if_true, if_false, Bool.false_eq_true])
          rw [sl_last2 (by omega)]
          rw [intsD_tI] at h1
          exact h1 _ rfl
        have em : (ss.map tI).map (fun d => tI (last2 (intsD d))) = (ss.map last2).map tI := by
          rw [List.map_map, List.map_map]
          congr 1
          funext s
          show tI (last2 (intsD (tI s))) = tI (last2 s)
          rw [intsD_tI]
        rw [em]
        have hS2 := sums_last hS (by omega)
        (try simp only [wC_ap, wSetI_ap, wExpr_ap, wRet_ap, wRetN_ap, wRet0_ap, wIf_ap, wFor_ap, wWhile_ap, wBreak_ap, wCont_ap, wNever_ap, wPick_ap, wCallL_ap, wOp_ap, wIxO_ap, wNoPart_ap, wPart_ap, wSl_ap, wUn_ap, wTest_ap, wChain_ap, wTru_ap, wNotT_ap, wAndT_ap, wOrT_ap, wAnd_ap, wOr_ap, wNot_ap, wIfE_ap, wNil_ap, wCons_ap, wTup_ap, wLst_ap, wCall_ap, wCall0_ap, wCallIo_ap, wYes_ap, wGn_ap, wSr_ap, wEn_ap, wZp_ap, wRg1_ap, wRg2_ap, wLc_ap, wMeth_ap, wMeth0_ap, wNext_ap, wSeq_ap, wAsg_ap, wSet_ap, wV_ap, wPar_ap, par2_ap, wGnil_ap, wGcons_ap, wGtup_ap, sl_z, sl_s, set_z, set_s, wipe_z, wipe_s, rest_z, rest_s, oAdd_i, oAdd_t, oAdd_l, oAdd_s, oSub_i, oMul_i, oMul_t, oII_i, oII0_i, oIx_l, oIx_t, oIx_f, oIsN_n, oNotN_n, oLen_l, oLen_t, oLen_f, oInt_i, oInt_b, oI1_i, oNeg_i, oList_l, oList_t, oTuple_l, oTuple_t, oBs_l, oSl_l, oSl_t, oIsi_ap, oIsi2_ap, tyD_n, tyD_b, tyD_i, tyD_s, tyD_t, tyD_l, tyD_f, truD_n, truD_b, truD_i, truD_t, truD_l, asB_b, asI_i, asL_l, isL_l, isL_t, isL_i, isL_b, isL_n, itD_l, itD_t, itD_f, fApp_ap, fExt_ap, ex_some, onS_ap, ite_t, ite_f, bodyD_ap, ioD_c, start_ap, isi_int_NoneType, isi_int_bool, isi_int_int, isi_int_str, isi_int_tuple, isi_int_list, isi_int_dict, isi_bool_NoneType, isi_bool_bool, isi_bool_int, isi_bool_str, isi_bool_tuple, isi_bool_list, isi_bool_dict, isi_str_NoneType, isi_str_bool, isi_str_int, isi_str_str, isi_str_tuple, isi_str_list, isi_str_dict, isi_list_NoneType, isi_list_bool, isi_list_int, isi_list_str, isi_list_tuple, isi_list_list, isi_list_dict, isi_tuple_NoneType, isi_tuple_bool, isi_tuple_int, isi_tuple_str, isi_tuple_tuple, isi_tuple_list, isi_tuple_dict, isi_dict_NoneType, isi_dict_bool, isi_dict_int, isi_dict_str, isi_dict_tuple, isi_dict_list, isi_dict_dict, List.map_cons, List.map_nil, List.cons_append, List.nil_append, List.length_cons, List.length_nil, List.replicate_succ, List.replicate_zero, Nat.reduceAdd, Nat.reduceSub, Nat.zero_add, true_and, and_true, Bool.not_true, Bool.not_false, Bool.true_or, Bool.or_true, Bool.false_or, Bool.or_false, if_true, if_false, Bool.false_eq_true])
        refine ⟨⟨by decide, by decide⟩, ?_⟩

        refine for_inv (fun pre ε => ∃ b0 b1 b2 o6, ε = [some (.frz (ns.map D.int)), some (.int i), some (.lst [.int b0, .int b1, .int b2]), some (.int (1 : Nat)), some (.int (60 : Nat)), some (.lst ((ss.map last2).map tI)), o6, none] ∧ 0 ≤ b1 ∧ b1 < 2147483648) ?_ ?_ ⟨g0, g1, g2, o6, rfl, hg1, hg2⟩
        · rintro pre2 d2 r2 ε2 e2 ⟨b0, b1, b2, o6, rfl, hb1, hb2⟩ N2 hN2
          (try simp only [wC_ap, wSetI_ap, wExpr_ap, wRet_ap, wRetN_ap, wRet0_ap, wIf_ap, wFor_ap, wWhile_ap, wBreak_ap, wCont_ap, wNever_ap, wPick_ap, wCallL_ap, wOp_ap, wIxO_ap, wNoPart_ap, wPart_ap, wSl_ap, wUn_ap, wTest_ap, wChain_ap, wTru_ap, wNotT_ap, wAndT_ap, wOrT_ap, wAnd_ap, wOr_ap, wNot_ap, wIfE_ap, wNil_ap, wCons_ap, wTup_ap, wLst_ap, wCall_ap, wCall0_ap, wCallIo_ap, wYes_ap, wGn_ap, wSr_ap, wEn_ap, wZp_ap, wRg1_ap, wRg2_ap, wLc_ap, wMeth_ap, wMeth0_ap, wNext_ap, wSeq_ap, wAsg_ap, wSet_ap, wV_ap, wPar_ap, par2_ap, wGnil_ap, wGcons_ap, wGtup_ap, sl_z, sl_s, set_z, set_s, wipe_z, wipe_s, rest_z, rest_s, oAdd_i, oAdd_t, oAdd_l, oAdd_s, oSub_i, oMul_i, oMul_t, oII_i, oII0_i, oIx_l, oIx_t, oIx_f, oIsN_n, oNotN_n, oLen_l, oLen_t, oLen_f, oInt_i, oInt_b, oI1_i, oNeg_i, oList_l, oList_t, oTuple_l, oTuple_t, oBs_l, oSl_l, oSl_t, oIsi_ap, oIsi2_ap, tyD_n, tyD_b, tyD_i, tyD_s, tyD_t, tyD_l, tyD_f, truD_n, truD_b, truD_i, truD_t, truD_l, asB_b, asI_i, asL_l, isL_l, isL_t, isL_i, isL_b, isL_n, itD_l, itD_t, itD_f, fApp_ap, fExt_ap, ex_some, onS_ap, ite_t, ite_f, bodyD_ap, ioD_c, start_ap, isi_int_NoneType, isi_int_bool, isi_int_int, isi_int_str, isi_int_tuple, isi_int_list, isi_int_dict, isi_bool_NoneType, isi_bool_bool, isi_bool_int, isi_bool_str, isi_bool_tuple, isi_bool_list, isi_bool_dict, isi_str_NoneType, isi_str_bool, isi_str_int, isi_str_str, isi_str_tuple, isi_str_list, isi_str_dict, isi_list_NoneType, isi_list_bool, isi_list_int, isi_list_str, isi_list_tuple, isi_list_list, isi_list_dict, isi_tuple_NoneType, isi_tuple_bool, isi_tuple_int, isi_tuple_str, isi_tuple_tuple, isi_tuple_list, isi_tuple_dict, isi_dict_NoneType, isi_dict_bool, isi_dict_int, isi_dict_str, isi_dict_tuple, isi_dict_list, isi_dict_dict, List.map_cons, List.map_nil, List.cons_append, List.nil_append, List.length_cons, List.length_nil, List.replicate_succ, List.replicate_zero, Nat.reduceAdd, Nat.reduceSub, Nat.zero_add, true_and, and_true, Bool.not_true, Bool.not_false, Bool.true_or, Bool.or_true, Bool.false_or, Bool.or_false, if_true, if_false, Bool.false_eq_true])
          refine ⟨(.lst [.int b0, .int b1, .int b2], (1 : Nat)), rfl, tkp hb1 hb2 (by omega) (by omega), ?_⟩
          rintro r c' ⟨⟨z, rfl, hz⟩, y0, y1, y2, rfl, hy1, hy2⟩
          have hz : (z : Int) < (1 : Nat) := hz
          (try simp only [wC_ap, wSetI_ap, wExpr_ap, wRet_ap, wRetN_ap, wRet0_ap, wIf_ap, wFor_ap, wWhile_ap, wBreak_ap, wCont_ap, wNever_ap, wPick_ap, wCallL_ap, wOp_ap, wIxO_ap, wNoPart_ap, wPart_ap, wSl_ap, wUn_ap, wTest_ap, wChain_ap, wTru_ap, wNotT_ap, wAndT_ap, wOrT_ap, wAnd_ap, wOr_ap, wNot_ap, wIfE_ap, wNil_ap, wCons_ap, wTup_ap, wLst_ap, wCall_ap, wCall0_ap, wCallIo_ap, wYes_ap, wGn_ap, wSr_ap, wEn_ap, wZp_ap, wRg1_ap, wRg2_ap, wLc_ap, wMeth_ap, wMeth0_ap, wNext_ap, wSeq_ap, wAsg_ap, wSet_ap, wV_ap, wPar_ap, par2_ap, wGnil_ap, wGcons_ap, wGtup_ap, sl_z, sl_s, set_z, set_s, wipe_z, wipe_s, rest_z, rest_s, oAdd_i, oAdd_t, oAdd_l, oAdd_s, oSub_i, oMul_i, oMul_t, oII_i, oII0_i, oIx_l, oIx_t, oIx_f, oIsN_n, oNotN_n, oLen_l, oLen_t, oLen_f, oInt_i, oInt_b, oI1_i, oNeg_i, oList_l, oList_t, oTuple_l, oTuple_t, oBs_l, oSl_l, oSl_t, oIsi_ap, oIsi2_ap, tyD_n, tyD_b, tyD_i, tyD_s, tyD_t, tyD_l, tyD_f, truD_n, truD_b, truD_i, truD_t, truD_l, asB_b, asI_i, asL_l, isL_l, isL_t, isL_i, isL_b, isL_n, itD_l, itD_t, itD_f, fApp_ap, fExt_ap, ex_some, onS_ap, ite_t, ite_f, bodyD_ap, ioD_c, start_ap, isi_int_NoneType, isi_int_bool, isi_int_int, isi_int_str, isi_int_tuple, isi_int_list, isi_int_dict, isi_bool_NoneType, isi_bool_bool, isi_bool_int, isi_bool_str, isi_bool_tuple, isi_bool_list, isi_bool_dict, isi_str_NoneType, isi_str_bool, isi_str_int, isi_str_str, isi_str_tuple, isi_str_list, isi_str_dict, isi_list_NoneType, isi_list_bool, isi_list_int, isi_list_str, isi_list_tuple, isi_list_list, isi_list_dict, isi_tuple_NoneType, isi_tuple_bool, isi_tuple_int, isi_tuple_str, isi_tuple_tuple, isi_tuple_list, isi_tuple_dict, isi_dict_NoneType, isi_dict_bool, isi_dict_int, isi_dict_str, isi_dict_tuple, isi_dict_list, isi_dict_dict, List.map_cons, List.map_nil, List.cons_append, List.nil_append, List.length_cons, List.length_nil, List.replicate_succ, List.replicate_zero, Nat.reduceAdd, Nat.reduceSub, Nat.zero_add, true_and, and_true, Bool.not_true, Bool.not_false, Bool.true_or, Bool.or_true, Bool.false_or, Bool.or_false, if_true, if_false, Bool.false_eq_true])
          refine ⟨(.lst [.int y0, .int y1, .int y2], (ss.map last2), 1, z), rfl, ⟨⟨_, _, _, rfl, hy1, hy2⟩, (show CastOk (ss.map last2) 1 z from sums_cast hS2 (by omega) (by omega) (by omega) (by omega))⟩, ?_⟩
          rintro r c' ⟨rfl, w0, w1, w2, rfl, hw1, hw2⟩
          (try simp only [wC_ap, wSetI_ap, wExpr_ap, wRet_ap, wRetN_ap, wRet0_ap, wIf_ap, wFor_ap, wWhile_ap, wBreak_ap, wCont_ap, wNever_ap, wPick_ap, wCallL_ap, wOp_ap, wIxO_ap, wNoPart_ap, wPart_ap, wSl_ap, wUn_ap, wTest_ap, wChain_ap, wTru_ap, wNotT_ap, wAndT_ap, wOrT_ap, wAnd_ap, wOr_ap, wNot_ap, wIfE_ap, wNil_ap, wCons_ap, wTup_ap, wLst_ap, wCall_ap, wCall0_ap, wCallIo_ap, wYes_ap, wGn_ap, wSr_ap, wEn_ap, wZp_ap, wRg1_ap, wRg2_ap, wLc_ap, wMeth_ap, wMeth0_ap, wNext_ap, wSeq_ap, wAsg_ap, wSet_ap, wV_ap, wPar_ap, par2_ap, wGnil_ap, wGcons_ap, wGtup_ap, sl_z, sl_s, set_z, set_s, wipe_z, wipe_s, rest_z, rest_s, oAdd_i, oAdd_t, oAdd_l, oAdd_s, oSub_i, oMul_i, oMul_t, oII_i, oII0_i, oIx_l, oIx_t, oIx_f, oIsN_n, oNotN_n, oLen_l, oLen_t, oLen_f, oInt_i, oInt_b, oI1_i, oNeg_i, oList_l, oList_t, oTuple_l, oTuple_t, oBs_l, oSl_l, oSl_t, oIsi_ap, oIsi2_ap, tyD_n, tyD_b, tyD_i, tyD_s, tyD_t, tyD_l, tyD_f, truD_n, truD_b, truD_i, truD_t, truD_l, asB_b, asI_i, asL_l, isL_l, isL_t, isL_i, isL_b, isL_n, itD_l, itD_t, itD_f, fApp_ap, fExt_ap, ex_some, onS_ap, ite_t, ite_f, bodyD_ap, ioD_c, start_ap, isi_int_NoneType, isi_int_bool, isi_int_int, isi_int_str, isi_int_tuple, isi_int_list, isi_int_dict, isi_bool_NoneType, isi_bool_bool, isi_bool_int, isi_bool_str, isi_bool_tuple, isi_bool_list, isi_bool_dict, isi_str_NoneType, isi_str_bool, isi_str_int, isi_str_str, isi_str_tuple, isi_str_list, isi_str_dict, isi_list_NoneType, isi_list_bool, isi_list_int, isi_list_str, isi_list_tuple, isi_list_list, isi_list_dict, isi_tuple_NoneType, isi_tuple_bool, isi_tuple_int, isi_tuple_str, isi_tuple_tuple, isi_tuple_list, isi_tuple_dict, isi_dict_NoneType, isi_dict_bool, isi_dict_int, isi_dict_str, isi_dict_tuple, isi_dict_list, isi_dict_dict, List.map_cons, List.map_nil, List.cons_append, List.nil_append, List.length_cons, List.length_nil, List.replicate_succ, List.replicate_zero, Nat.reduceAdd, Nat.reduceSub, Nat.zero_add, true_and, and_true, Bool.not_true, Bool.not_false, Bool.true_or, Bool.or_true, Bool.false_or, Bool.or_false, if_true, if_false, Bool.false_eq_true])
          exact hN2 _ ⟨w0, w1, w2, _, rfl, hw1, hw2⟩
        · rintro ε2 ⟨b0, b1, b2, o6, rfl, hb1, hb2⟩
          (try simp only [wC_ap, wSetI_ap, wExpr_ap, wRet_ap, wRetN_ap, wRet0_ap, wIf_ap, wFor_ap, wWhile_ap, wBreak_ap, wCont_ap, wNever_ap, wPick_ap, wCallL_ap, wOp_ap, wIxO_ap, wNoPart_ap, wPart_ap, wSl_ap, wUn_ap, wTest_ap, wChain_ap, wTru_ap, wNotT_ap, wAndT_ap, wOrT_ap, wAnd_ap, wOr_ap, wNot_ap, wIfE_ap, wNil_ap, wCons_ap, wTup_ap, wLst_ap, wCall_ap, wCall0_ap, wCallIo_ap, wYes_ap, wGn_ap, wSr_ap, wEn_ap, wZp_ap, wRg1_ap, wRg2_ap, wLc_ap, wMeth_ap, wMeth0_ap, wNext_ap, wSeq_ap, wAsg_ap, wSet_ap, wV_ap, wPar_ap, par2_ap, wGnil_ap, wGcons_ap, wGtup_ap, sl_z, sl_s, set_z, set_s, wipe_z, wipe_s, rest_z, rest_s, oAdd_i, oAdd_t, oAdd_l, oAdd_s, oSub_i, oMul_i, oMul_t, oII_i, oII0_i, oIx_l, oIx_t, oIx_f, oIsN_n, oNotN_n, oLen_l, oLen_t, oLen_f, oInt_i, oInt_b, oI1_i, oNeg_i, oList_l, oList_t, oTuple_l, oTuple_t, oBs_l, oSl_l, oSl_t, oIsi_ap, oIsi2_ap, tyD_n, tyD_b, tyD_i, tyD_s, tyD_t, tyD_l, tyD_f, truD_n, truD_b, truD_i, truD_t, truD_l, asB_b, asI_i, asL_l, isL_l, isL_t, isL_i, isL_b, isL_n, itD_l, itD_t, itD_f, fApp_ap, fExt_ap, ex_some, onS_ap, ite_t, ite_f, bodyD_ap, ioD_c, start_ap, isi_int_NoneType, isi_int_bool, isi_int_int, isi_int_str, isi_int_tuple, isi_int_list, isi_int_dict, isi_bool_NoneType, isi_bool_bool, isi_bool_int, isi_bool_str, isi_bool_tuple, isi_bool_list, isi_bool_dict, isi_str_NoneType, isi_str_bool, isi_str_int, isi_str_str, isi_str_tuple, isi_str_list, isi_str_dict, isi_list_NoneType, isi_list_bool, isi_list_int, isi_list_str, isi_list_tuple, isi_list_list, isi_list_dict, isi_tuple_NoneType, isi_tuple_bool, isi_tuple_int, isi_tuple_str, isi_tuple_tuple, isi_tuple_list, isi_tuple_dict, isi_dict_NoneType, isi_dict_bool, isi_dict_int, isi_dict_str, isi_dict_tuple, isi_dict_list, isi_dict_dict, List.map_cons, List.map_nil, List.cons_append, List.nil_append, List.length_cons, List.length_nil, List.replicate_succ, List.replicate_zero, Nat.reduceAdd, Nat.reduceSub, Nat.zero_add, true_and, and_true, Bool.not_true, Bool.not_false, Bool.true_or, Bool.or_true, Bool.false_or, Bool.or_false, if_true, if_false, Bool.false_eq_true])
          exact hN _ ⟨_, _, _, _, _, _, rfl⟩

      · rw [decide_eq_false h8']
        (try simp only [wC_ap, wSetI_ap, wExpr_ap, wRet_ap, wRetN_ap, wRet0_ap, wIf_ap, wFor_ap, wWhile_ap, wBreak_ap, wCont_ap, wNever_ap, wPick_ap, wCallL_ap, wOp_ap, wIxO_ap, wNoPart_ap, wPart_ap, wSl_ap, wUn_ap, wTest_ap, wChain_ap, wTru_ap, wNotT_ap, wAndT_ap, wOrT_ap, wAnd_ap, wOr_ap, wNot_ap, wIfE_ap, wNil_ap, wCons_ap, wTup_ap, wLst_ap, wCall_ap, wCall0_ap, wCallIo_ap, wYes_ap, wGn_ap, wSr_ap, wEn_ap, wZp_ap, wRg1_ap, wRg2_ap, wLc_ap, wMeth_ap, wMeth0_ap, wNext_ap, wSeq_ap, wAsg_ap, wSet_ap, wV_ap, wPar_ap, par2_ap, wGnil_ap, wGcons_ap, wGtup_ap, sl_z, sl_s, set_z, set_s, wipe_z, wipe_s, rest_z, rest_s, oAdd_i, oAdd_t, oAdd_l, oAdd_s, oSub_i, oMul_i, oMul_t, oII_i, oII0_i, oIx_l, oIx_t, oIx_f, oIsN_n, oNotN_n, oLen_l, oLen_t, oLen_f, oInt_i, oInt_b, oI1_i, oNeg_i, oList_l, oList_t, oTuple_l, oTuple_t, oBs_l, oSl_l, oSl_t, oIsi_ap, oIsi2_ap, tyD_n, tyD_b, tyD_i, tyD_s, tyD_t, tyD_l, tyD_f, truD_n, truD_b, truD_i, truD_t, truD_l, asB_b, asI_i, asL_l, isL_l, isL_t, isL_i, isL_b, isL_n, itD_l, itD_t, itD_f, fApp_ap, fExt_ap, ex_some, onS_ap, ite_t, ite_f, bodyD_ap, ioD_c, start_ap, isi_int_NoneType, isi_int_bool, isi_int_int, isi_int_str, isi_int_tuple, isi_int_list, isi_int_dict, isi_bool_NoneType, isi_bool_bool, isi_bool_int, isi_bool_str, isi_bool_tuple, isi_bool_list, isi_bool_dict, isi_str_NoneType, isi_str_bool, isi_str_int, isi_str_str, isi_str_tuple, isi_str_list, isi_str_dict, isi_list_NoneType, isi_list_bool, isi_list_int, isi_list_str, isi_list_tuple, isi_list_list, isi_list_dict, isi_tuple_NoneType, isi_tuple_bool, isi_tuple_int, isi_tuple_str, isi_tuple_tuple, isi_tuple_list, isi_tuple_dict, isi_dict_NoneType, isi_dict_bool, isi_dict_int, isi_dict_str, isi_dict_tuple, isi_dict_list, isi_dict_dict, List.map_cons, List.map_nil, List.cons_append, List.nil_append, List.length_cons, List.length_nil, List.replicate_succ, List.replicate_zero, Nat.reduceAdd, Nat.reduceSub, Nat.zero_add, true_and, and_true, Bool.not_true, Bool.not_false, Bool.true_or, Bool.or_true, Bool.false_or, Bool.or_false, if_true, if_false, Bool.false_eq_true])
        refine ⟨⟨by decide, by decide⟩, ?_⟩

        refine for_inv (fun pre ε => ∃ b0 b1 b2 o6, ε = [some (.frz (ns.map D.int)), some (.int i), some (.lst [.int b0, .int b1, .int b2]), some (.int (10 : Nat)), some (.int (60 : Nat)), some (.lst (ss.map tI)), o6, none] ∧ 0 ≤ b1 ∧ b1 < 2147483648) ?_ ?_ ⟨g0, g1, g2, o6, rfl, hg1, hg2⟩
        · rintro pre2 d2 r2 ε2 e2 ⟨b0, b1, b2, o6, rfl, hb1, hb2⟩ N2 hN2
          (try simp only [wC_ap, wSetI_ap, wExpr_ap, wRet_ap, wRetN_ap, wRet0_ap, wIf_ap, wFor_ap, wWhile_ap, wBreak_ap, wCont_ap, wNever_ap, wPick_ap, wCallL_ap, wOp_ap, wIxO_ap, wNoPart_ap, wPart_ap, wSl_ap, wUn_ap, wTest_ap, wChain_ap, wTru_ap, wNotT_ap, wAndT_ap, wOrT_ap, wAnd_ap, wOr_ap, wNot_ap, wIfE_ap, wNil_ap, wCons_ap, wTup_ap, wLst_ap, wCall_ap, wCall0_ap, wCallIo_ap, wYes_ap, wGn_ap, wSr_ap, wEn_ap, wZp_ap, wRg1_ap, wRg2_ap, wLc_ap, wMeth_ap, wMeth0_ap, wNext_ap, wSeq_ap, wAsg_ap, wSet_ap, wV_ap, wPar_ap, par2_ap, wGnil_ap, wGcons_ap, wGtup_ap, sl_z, sl_s, set_z, set_s, wipe_z, wipe_s, rest_z, rest_s, oAdd_i, oAdd_t, oAdd_l, oAdd_s, oSub_i, oMul_i, oMul_t, oII_i, oII0_i, oIx_l, oIx_t, oIx_f, oIsN_n, oNotN_n, oLen_l, oLen_t, oLen_f, oInt_i, oInt_b, oI1_i, oNeg_i, oList_l, oList_t, oTuple_l, oTuple_t, oBs_l, oSl_l, oSl_t, oIsi_ap, oIsi2_ap, tyD_n, tyD_b, tyD_i, tyD_s, tyD_t, tyD_l, tyD_f, truD_n, truD_b, truD_i, truD_t, truD_l, asB_b, asI_i, asL_l, isL_l, isL_t, isL_i, isL_b, isL_n, itD_l, itD_t, itD_f, fApp_ap, fExt_ap, ex_some, onS_ap, ite_t, ite_f, bodyD_ap, ioD_c, start_ap, isi_int_NoneType, isi_int_bool, isi_int_int, isi_int_str, isi_int_tuple, isi_int_list, isi_int_dict, isi_bool_NoneType, isi_bool_bool, isi_bool_int, isi_bool_str, isi_bool_tuple, isi_bool_list, isi_bool_dict, isi_str_NoneType, isi_str_bool, isi_str_int, isi_str_str, isi_str_tuple, isi_str_list, isi_str_dict, isi_list_NoneType, isi_list_bool, isi_list_int, isi_list_str, isi_list_tuple, isi_list_list, isi_list_dict, isi_tuple_NoneType, isi_tuple_bool, isi_tuple_int, isi_tuple_str, isi_tuple_tuple, isi_tuple_list, isi_tuple_dict, isi_dict_NoneType, isi_dict_bool, isi_dict_int, isi_dict_str, isi_dict_tuple, isi_dict_list, isi_dict_dict, List.map_cons, List.map_nil, List.cons_append, List.nil_append, List.length_cons, List.length_nil, List.replicate_succ, List.replicate_zero, Nat.reduceAdd, Nat.reduceSub, Nat.zero_add, true_and, and_true, Bool.not_true, Bool.not_false, Bool.true_or, Bool.or_true, Bool.false_or, Bool.or_false, if_true, if_false, Bool.false_eq_true])
          refine ⟨(.lst [.int b0, .int b1, .int b2], (10 : Nat)), rfl, tkp hb1 hb2 (by omega) (by omega), ?_⟩
          rintro r c' ⟨⟨z, rfl, hz⟩, y0, y1, y2, rfl, hy1, hy2⟩
          have hz : (z : Int) < (10 : Nat) := hz
          (try simp only [wC_ap, wSetI_ap, wExpr_ap, wRet_ap, wRetN_ap, wRet0_ap, wIf_ap, wFor_ap, wWhile_ap, wBreak_ap, wCont_ap, wNever_ap, wPick_ap, wCallL_ap, wOp_ap, wIxO_ap, wNoPart_ap, wPart_ap, wSl_ap, wUn_ap, wTest_ap, wChain_ap, wTru_ap, wNotT_ap, wAndT_ap, wOrT_ap, wAnd_ap, wOr_ap, wNot_ap, wIfE_ap, wNil_ap, wCons_ap, wTup_ap, wLst_ap, wCall_ap, wCall0_ap, wCallIo_ap, wYes_ap, wGn_ap, wSr_ap, wEn_ap, wZp_ap, wRg1_ap, wRg2_ap, wLc_ap, wMeth_ap, wMeth0_ap, wNext_ap, wSeq_ap, wAsg_ap, wSet_ap, wV_ap, wPar_ap, par2_ap, wGnil_ap, wGcons_ap, wGtup_ap, sl_z, sl_s, set_z, set_s, wipe_z, wipe_s, rest_z, rest_s, oAdd_i, oAdd_t, oAdd_l, oAdd_s, oSub_i, oMul_i, oMul_t, oII_i, oII0_i, oIx_l, oIx_t, oIx_f, oIsN_n, oNotN_n, oLen_l, oLen_t, oLen_f, oInt_i, oInt_b, oI1_i, oNeg_i, oList_l, oList_t, oTuple_l, oTuple_t, oBs_l, oSl_l, oSl_t, oIsi_ap, oIsi2_ap, tyD_n, tyD_b, tyD_i, tyD_s, tyD_t, tyD_l, tyD_f, truD_n, truD_b, truD_i, truD_t, truD_l, asB_b, asI_i, asL_l, isL_l, isL_t, isL_i, isL_b, isL_n, itD_l, itD_t, itD_f, fApp_ap, fExt_ap, ex_some, onS_ap, ite_t, ite_f, bodyD_ap, ioD_c, start_ap, isi_int_NoneType, isi_int_bool, isi_int_int, isi_int_str, isi_int_tuple, isi_int_list, isi_int_dict, isi_bool_NoneType, isi_bool_bool, isi_bool_int, isi_bool_str, isi_bool_tuple, isi_bool_list, isi_bool_dict, isi_str_NoneType, isi_str_bool, isi_str_int, isi_str_str, isi_str_tuple, isi_str_list, isi_str_dict, isi_list_NoneType, isi_list_bool, isi_list_int, isi_list_str, isi_list_tuple, isi_list_list, isi_list_dict, isi_tuple_NoneType, isi_tuple_bool, isi_tuple_int, isi_tuple_str, isi_tuple_tuple, isi_tuple_list, isi_tuple_dict, isi_dict_NoneType, isi_dict_bool, isi_dict_int, isi_dict_str, isi_dict_tuple, isi_dict_list, isi_dict_dict, List.map_cons, List.map_nil, List.cons_append, List.nil_append, List.length_cons, List.length_nil, List.replicate_succ, List.replicate_zero, Nat.reduceAdd, Nat.reduceSub, Nat.zero_add, true_and, and_true, Bool.not_true, Bool.not_false, Bool.true_or, Bool.or_true, Bool.false_or, Bool.or_false, if_true, if_false, Bool.false_eq_true])
          refine ⟨(.lst [.int y0, .int y1, .int y2], ss, 10, z), rfl, ⟨⟨_, _, _, rfl, hy1, hy2⟩, (show CastOk ss 10 z from sums_cast hS (by omega) (by omega) (by omega) (by omega))⟩, ?_⟩
          rintro r c' ⟨rfl, w0, w1, w2, rfl, hw1, hw2⟩
          (try simp only [wC_ap, wSetI_ap, wExpr_ap, wRet_ap, wRetN_ap, wRet0_ap, wIf_ap, wFor_ap, wWhile_ap, wBreak_ap, wCont_ap, wNever_ap, wPick_ap, wCallL_ap, wOp_ap, wIxO_ap, wNoPart_ap, wPart_ap, wSl_ap, wUn_ap, wTest_ap, wChain_ap, wTru_ap, wNotT_ap, wAndT_ap, wOrT_ap, wAnd_ap, wOr_ap, wNot_ap, wIfE_ap, wNil_ap, wCons_ap, wTup_ap, wLst_ap, wCall_ap, wCall0_ap, wCallIo_ap, wYes_ap, wGn_ap, wSr_ap, wEn_ap, wZp_ap, wRg1_ap, wRg2_ap, wLc_ap, wMeth_ap, wMeth0_ap, wNext_ap, wSeq_ap, wAsg_ap, wSet_ap, wV_ap, wPar_ap, par2_ap, wGnil_ap, wGcons_ap, wGtup_ap, sl_z, sl_s, set_z, set_s, wipe_z, wipe_s, rest_z, rest_s, oAdd_i, oAdd_t, oAdd_l, oAdd_s, oSub_i, oMul_i, oMul_t, oII_i, oII0_i, oIx_l, oIx_t, oIx_f, oIsN_n, oNotN_n, oLen_l, oLen_t, oLen_f, oInt_i, oInt_b, oI1_i, oNeg_i, oList_l, oList_t, oTuple_l, oTuple_t, oBs_l, oSl_l, oSl_t, oIsi_ap, oIsi2_ap, tyD_n, tyD_b, tyD_i, tyD_s, tyD_t, tyD_l, tyD_f, truD_n, truD_b, truD_i, truD_t, truD_l, asB_b, asI_i, asL_l, isL_l, isL_t, isL_i, isL_b, isL_n, itD_l, itD_t, itD_f, fApp_ap, fExt_ap, ex_some, onS_ap, ite_t, ite_f, bodyD_ap, ioD_c, start_ap, isi_int_NoneType, isi_int_bool, isi_int_int, isi_int_str, isi_int_tuple, isi_int_list, isi_int_dict, isi_bool_NoneType, isi_bool_bool, isi_bool_int, isi_bool_str, isi_bool_tuple, isi_bool_list, isi_bool_dict, isi_str_NoneType, isi_str_bool, isi_str_int, isi_str_str, isi_str_tuple, isi_str_list, isi_str_dict, isi_list_NoneType, isi_list_bool, isi_list_int, isi_list_str, isi_list_tuple, isi_list_list, isi_list_dict, isi_tuple_NoneType, isi_tuple_bool, isi_tuple_int, isi_tuple_str, isi_tuple_tuple, isi_tuple_list, isi_tuple_dict, isi_dict_NoneType, isi_dict_bool, isi_dict_int, isi_dict_str, isi_dict_tuple, isi_dict_list, isi_dict_dict, List.map_cons, List.map_nil, List.cons_append, List.nil_append, List.length_cons, List.length_nil, List.replicate_succ, List.replicate_zero, Nat.reduceAdd, Nat.reduceSub, Nat.zero_add, true_and, and_true, Bool.not_true, Bool.not_false, Bool.true_or, Bool.or_true, Bool.false_or, Bool.or_false, if_true, if_false, Bool.false_eq_true])
          exact hN2 _ ⟨w0, w1, w2, _, rfl, hw1, hw2⟩
        · rintro ε2 ⟨b0, b1, b2, o6, rfl, hb1, hb2⟩
          (try simp only [wC_ap, wSetI_ap, wExpr_ap, wRet_ap, wRetN_ap, wRet0_ap, wIf_ap, wFor_ap, wWhile_ap, wBreak_ap, wCont_ap, wNever_ap, wPick_ap, wCallL_ap, wOp_ap, wIxO_ap, wNoPart_ap, wPart_ap, wSl_ap, wUn_ap, wTest_ap, wChain_ap, wTru_ap, wNotT_ap, wAndT_ap, wOrT_ap, wAnd_ap, wOr_ap, wNot_ap, wIfE_ap, wNil_ap, wCons_ap, wTup_ap, wLst_ap, wCall_ap, wCall0_ap, wCallIo_ap, wYes_ap, wGn_ap, wSr_ap, wEn_ap, wZp_ap, wRg1_ap, wRg2_ap, wLc_ap, wMeth_ap, wMeth0_ap, wNext_ap, wSeq_ap, wAsg_ap, wSet_ap, wV_ap, wPar_ap, par2_ap, wGnil_ap, wGcons_ap, wGtup_ap, sl_z, sl_s, set_z, set_s, wipe_z, wipe_s, rest_z, rest_s, oAdd_i, oAdd_t, oAdd_l, oAdd_s, oSub_i, oMul_i, oMul_t, oII_i, oII0_i, oIx_l, oIx_t, oIx_f, oIsN_n, oNotN_n, oLen_l, oLen_t, oLen_f, oInt_i, oInt_b, oI1_i, oNeg_i, oList_l, oList_t, oTuple_l, oTuple_t, oBs_l, oSl_l, oSl_t, oIsi_ap, oIsi2_ap, tyD_n, tyD_b, tyD_i, tyD_s, tyD_t, tyD_l, tyD_f, truD_n, truD_b, truD_i, truD_t, truD_l, asB_b, asI_i, asL_l, isL_l, isL_t, isL_i, isL_b, isL_n, itD_l, itD_t, itD_f, fApp_ap, fExt_ap, ex_some, onS_ap, ite_t, ite_f, bodyD_ap, ioD_c, start_ap, isi_int_NoneType, isi_int_bool, isi_int_int, isi_int_str, isi_int_tuple, isi_int_list, isi_int_dict, isi_bool_NoneType, isi_bool_bool, isi_bool_int, isi_bool_str, isi_bool_tuple, isi_bool_list, isi_bool_dict, isi_str_NoneType, isi_str_bool, isi_str_int, isi_str_str, isi_str_tuple, isi_str_list, isi_str_dict, isi_list_NoneType, isi_list_bool, isi_list_int, isi_list_str, isi_list_tuple, isi_list_list, isi_list_dict, isi_tuple_NoneType, isi_tuple_bool, isi_tuple_int, isi_tuple_str, isi_tuple_tuple, isi_tuple_list, isi_tuple_dict, isi_dict_NoneType, isi_dict_bool, isi_dict_int, isi_dict_str, isi_dict_tuple, isi_dict_list, isi_dict_dict, List.map_cons, List.map_nil, List.cons_append, List.nil_append, List.length_cons, List.length_nil, List.replicate_succ, List.replicate_zero, Nat.reduceAdd, Nat.reduceSub, Nat.zero_add, true_and, and_true, Bool.not_true, Bool.not_false, Bool.true_or, Bool.or_true, Bool.false_or, Bool.or_false, if_true, if_false, Bool.false_eq_true])
          exact hN _ ⟨_, _, _, _, _, _, rfl⟩

    · rw [decide_eq_false h8]
      (try simp only [wC_ap, wSetI_ap, wExpr_ap, wRet_ap, wRetN_ap, wRet0_ap, wIf_ap, wFor_ap, wWhile_ap, wBreak_ap, wCont_ap, wNever_ap, wPick_ap, wCallL_ap, wOp_ap, wIxO_ap, wNoPart_ap, wPart_ap, wSl_ap, wUn_ap, wTest_ap, wChain_ap, wTru_ap, wNotT_ap, wAndT_ap, wOrT_ap, wAnd_ap, wOr_ap, wNot_ap, wIfE_ap, wNil_ap, wCons_ap, wTup_ap, wLst_ap, wCall_ap, wCall0_ap, wCallIo_ap, wYes_ap, wGn_ap, wSr_ap, wEn_ap, wZp_ap, wRg1_ap, wRg2_ap, wLc_ap, wMeth_ap, wMeth0_ap, wNext_ap, wSeq_ap, wAsg_ap, wSet_ap, wV_ap, wPar_ap, par2_ap, wGnil_ap, wGcons_ap, wGtup_ap, sl_z, sl_s, set_z, set_s, wipe_z, wipe_s, rest_z, rest_s, oAdd_i, oAdd_t, oAdd_l, oAdd_s, oSub_i, oMul_i, oMul_t, oII_i, oII0_i, oIx_l, oIx_t, oIx_f, oIsN_n, oNotN_n, oLen_l, oLen_t, oLen_f, oInt_i, oInt_b, oI1_i, oNeg_i, oList_l, oList_t, oTuple_l, oTuple_t, oBs_l, oSl_l, oSl_t, oIsi_ap, oIsi2_ap, tyD_n, tyD_b, tyD_i, tyD_s, tyD_t, tyD_l, tyD_f, truD_n, truD_b, truD_i, truD_t, truD_l, asB_b, asI_i, asL_l, isL_l, isL_t, isL_i, isL_b, isL_n, itD_l, itD_t, itD_f, fApp_ap, fExt_ap, ex_some, onS_ap, ite_t, ite_f, bodyD_ap, ioD_c, start_ap, isi_int_NoneType, isi_int_bool, isi_int_int, isi_int_str, isi_int_tuple, isi_int_list, isi_int_dict, isi_bool_NoneType, isi_bool_bool, isi_bool_int, isi_bool_str, isi_bool_tuple, isi_bool_list, isi_bool_dict, isi_str_NoneType, isi_str_bool, isi_str_int, isi_str_str, isi_str_tuple, isi_str_list, isi_str_dict, isi_list_NoneType, isi_list_bool, isi_list_int, isi_list_str, isi_list_tuple, isi_list_list, isi_list_dict, isi_tuple_NoneType, isi_tuple_bool, isi_tuple_int, isi_tuple_str, isi_tuple_tuple, isi_tuple_list, isi_tuple_dict, isi_dict_NoneType, isi_dict_bool, isi_dict_int, isi_dict_str, isi_dict_tuple, isi_dict_list, isi_dict_dict, List.map_cons, List.map_nil, List.cons_append, List.nil_append, List.length_cons, List.length_nil, List.replicate_succ, List.replicate_zero, Nat.reduceAdd, Nat.reduceSub, Nat.zero_add, true_and, and_true, Bool.not_true, Bool.not_false, Bool.true_or, Bool.or_true, Bool.false_or, Bool.or_false, if_true, if_false, Bool.false_eq_true])

      refine ⟨(.lst [.int e0, .int e1, .int e2], (1 + z5), (1 + z12)), rfl, ⟨⟨_, _, _, rfl, he1, he2⟩, by show 1 ≤ (1 + z5); omega, by show (1 + z5) ≤ 10; omega, by show 1 ≤ (1 + z12); omega, by show (1 + z12) ≤ 60; omega⟩, ?_⟩
      rintro r c' ⟨⟨ss, rfl, hS⟩, f0, f1, f2, rfl, hf1, hf2⟩
      have hS : Sums ss (1 + z5) (1 + z12) := hS
      (try simp only [wC_ap, wSetI_ap, wExpr_ap, wRet_ap, wRetN_ap, wRet0_ap, wIf_ap, wFor_ap, wWhile_ap, wBreak_ap, wCont_ap, wNever_ap, wPick_ap, wCallL_ap, wOp_ap, wIxO_ap, wNoPart_ap, wPart_ap, wSl_ap, wUn_ap, wTest_ap, wChain_ap, wTru_ap, wNotT_ap, wAndT_ap, wOrT_ap, wAnd_ap, wOr_ap, wNot_ap, wIfE_ap, wNil_ap, wCons_ap, wTup_ap, wLst_ap, wCall_ap, wCall0_ap, wCallIo_ap, wYes_ap, wGn_ap, wSr_ap, wEn_ap, wZp_ap, wRg1_ap, wRg2_ap, wLc_ap, wMeth_ap, wMeth0_ap, wNext_ap, wSeq_ap, wAsg_ap, wSet_ap, wV_ap, wPar_ap, par2_ap, wGnil_ap, wGcons_ap, wGtup_ap, sl_z, sl_s, set_z, set_s, wipe_z, wipe_s, rest_z, rest_s, oAdd_i, oAdd_t, oAdd_l, oAdd_s, oSub_i, oMul_i, oMul_t, oII_i, oII0_i, oIx_l, oIx_t, oIx_f, oIsN_n, oNotN_n, oLen_l, oLen_t, oLen_f, oInt_i, oInt_b, oI1_i, oNeg_i, oList_l, oList_t, oTuple_l, oTuple_t, oBs_l, oSl_l, oSl_t, oIsi_ap, oIsi2_ap, tyD_n, tyD_b, tyD_i, tyD_s, tyD_t, tyD_l, tyD_f, truD_n, truD_b, truD_i, truD_t, truD_l, asB_b, asI_i, asL_l, isL_l, isL_t, isL_i, isL_b, isL_n, itD_l, itD_t, itD_f, fApp_ap, fExt_ap, ex_some, onS_ap, ite_t, ite_f, bodyD_ap, ioD_c, start_ap, isi_int_NoneType, isi_int_bool, isi_int_int, isi_int_str, isi_int_tuple, isi_int_list, isi_int_dict, isi_bool_NoneType, isi_bool_bool, isi_bool_int, isi_bool_str, isi_bool_tuple, isi_bool_list, isi_bool_dict, isi_str_NoneType, isi_str_bool, isi_str_int, isi_str_str, isi_str_tuple, isi_str_list, isi_str_dict, isi_list_NoneType, isi_list_bool, isi_list_int, isi_list_str, isi_list_tuple, isi_list_list, isi_list_dict, isi_tuple_NoneType, isi_tuple_bool, isi_tuple_int, isi_tuple_str, isi_tuple_tuple, isi_tuple_list, isi_tuple_dict, isi_dict_NoneType, isi_dict_bool, isi_dict_int, isi_dict_str, isi_dict_tuple, isi_dict_list, isi_dict_dict, List.map_cons, List.map_nil, List.cons_append, List.nil_append, List.length_cons, List.length_nil, List.replicate_succ, List.replicate_zero, Nat.reduceAdd, Nat.reduceSub, Nat.zero_add, true_and, and_true, Bool.not_true, Bool.not_false, Bool.true_or, Bool.or_true, Bool.false_or, Bool.or_false, if_true, if_false, Bool.false_eq_true])
      refine ⟨(.lst [.int f0, .int f1, .int f2], 8), rfl, tkp hf1 hf2 (by decide) (by decide), ?_⟩
      rintro r c' ⟨⟨z8', rfl, hz8'⟩, g0, g1, g2, rfl, hg1, hg2⟩
      refine ⟨okD_int _ _, okD_int _ _, ?_⟩
      rw [eqD_int]
      by_cases h8' : ((z8' : Nat) : Int) = 0
      · rw [decide_eq_true h8']
        (try simp only [wC_ap, wSetI_ap, wExpr_ap, wRet_ap, wRetN_ap, wRet0_ap, wIf_ap, wFor_ap, wWhile_ap, wBreak_ap, wCont_ap, wNever_ap, wPick_ap, wCallL_ap, wOp_ap, wIxO_ap, wNoPart_ap, wPart_ap, wSl_ap, wUn_ap, wTest_ap, wChain_ap, wTru_ap, wNotT_ap, wAndT_ap, wOrT_ap, wAnd_ap, wOr_ap, wNot_ap, wIfE_ap, wNil_ap, wCons_ap, wTup_ap, wLst_ap, wCall_ap, wCall0_ap, wCallIo_ap, wYes_ap, wGn_ap, wSr_ap, wEn_ap, wZp_ap, wRg1_ap, wRg2_ap, wLc_ap, wMeth_ap, wMeth0_ap, wNext_ap, wSeq_ap, wAsg_ap, wSet_ap, wV_ap, wPar_ap, par2_ap, wGnil_ap, wGcons_ap, wGtup_ap, sl_z, sl_s, set_z, set_s, wipe_z, wipe_s, rest_z, rest_s, oAdd_i, oAdd_t, oAdd_l, oAdd_s, oSub_i, oMul_i, oMul_t, oII_i, oII0_i, oIx_l, oIx_t, oIx_f, oIsN_n, oNotN_n, oLen_l, oLen_t, oLen_f, oInt_i, oInt_b, oI1_i, oNeg_i, oList_l, oList_t, oTuple_l, oTuple_t, oBs_l, oSl_l, oSl_t, oIsi_ap, oIsi2_ap, tyD_n, tyD_b, tyD_i, tyD_s, tyD_t, tyD_l, tyD_f, truD_n, truD_b, truD_i, truD_t, truD_l, asB_b, asI_i, asL_l, isL_l, isL_t, isL_i, isL_b, isL_n, itD_l, itD_t, itD_f, fApp_ap, fExt_ap, ex_some, onS_ap, ite_t, ite_f, bodyD_ap, ioD_c, start_ap, isi_int_NoneType, isi_int_bool, isi_int_int, isi_int_str, isi_int_tuple, isi_int_list, isi_int_dict, isi_bool_NoneType, isi_bool_bool, isi_bool_int, isi_bool_str, isi_bool_tuple, isi_bool_list, isi_bool_dict, isi_str_NoneType, isi_str_bool, isi_str_int, isi_str_str, isi_str_tuple, isi_str_list, isi_str_dict, isi_list_NoneType, isi_list_bool, isi_list_int, isi_list_str, isi_list_tuple, isi_list_list, isi_list_dict, isi_tuple_NoneType, isi_tuple_bool, isi_tuple_int, isi_tuple_str, isi_tuple_tuple, isi_tuple_list, isi_tuple_dict, isi_dict_NoneType, isi_dict_bool, isi_dict_int, isi_dict_str, isi_dict_tuple, isi_dict_list, isi_dict_dict, List.map_cons, List.map_nil, List.cons_append, List.nil_append, List.length_cons, List.length_nil, List.replicate_succ, List.replicate_zero, Nat.reduceAdd, Nat.reduceSub, Nat.zero_add, true_and, and_true, Bool.not_true, Bool.not_false, Bool.true_or, Bool.or_true, Bool.false_or, Bool.or_false, if_true, if_false, Bool.false_eq_true])
        refine ⟨by rw [List.length_map, hS.num]; exact small_z (by omega), lc_map (fun d => tI (last2 (intsD d))) ?_ ?_⟩
        · intro d hd K1 h1
          obtain ⟨s, hs, rfl⟩ := List.mem_map.mp hd
          have hl := hS.len s hs
          (try simp only [wC_ap, wSetI_ap, wExpr_ap, wRet_ap, wRetN_ap, wRet0_ap, wIf_ap, wFor_ap, wWhile_ap, wBreak_ap, wCont_ap, wNever_ap, wPick_ap, wCallL_ap, wOp_ap, wIxO_ap, wNoPart_ap, wPart_ap, wSl_ap, wUn_ap, wTest_ap, wChain_ap, wTru_ap, wNotT_ap, wAndT_ap, wOrT_ap, wAnd_ap, wOr_ap, wNot_ap, wIfE_ap, wNil_ap, wCons_ap, wTup_ap, wLst_ap, wCall_ap, wCall0_ap, wCallIo_ap, wYes_ap, wGn_ap, wSr_ap, wEn_ap, wZp_ap, wRg1_ap, wRg2_ap, wLc_ap, wMeth_ap, wMeth0_ap, wNext_ap, wSeq_ap, wAsg_ap, wSet_ap, wV_ap, wPar_ap, par2_ap, wGnil_ap, wGcons_ap, wGtup_ap, sl_z, sl_s, set_z, set_s, wipe_z, wipe_s, rest_z, rest_s, oAdd_i, oAdd_t, oAdd_l, oAdd_s, oSub_i, oMul_i, oMul_t, oII_i, oII0_i, oIx_l, oIx_t, oIx_f, oIsN_n, oNotN_n, oLen_l, oLen_t, oLen_f, oInt_i, oInt_b, oI1_i, oNeg_i, oList_l, oList_t, oTuple_l, oTuple_t, oBs_l, oSl_l, oSl_t, oIsi_ap, oIsi2_ap, tyD_n, tyD_b, tyD_i, tyD_s, tyD_t, tyD_l, tyD_f, truD_n, truD_b, truD_i, truD_t, truD_l, asB_b, asI_i, asL_l, isL_l, isL_t, isL_i, isL_b, isL_n, itD_l, itD_t, itD_f, fApp_ap, fExt_ap, ex_some, onS_ap, ite_t, ite_f, bodyD_ap, ioD_c, start_ap, isi_int_NoneType, isi_int_bool, isi_int_int, isi_int_str, isi_int_tuple, isi_int_list, isi_int_dict, isi_bool_NoneType, isi_bool_bool, isi_bool_int, isi_bool_str, isi_bool_tuple, isi_bool_list, isi_bool_dict, isi_str_NoneType, isi_str_bool, isi_str_int, isi_str_str, isi_str_tuple, isi_str_list, isi_str_dict, isi_list_NoneType, isi_list_bool, isi_list_int, isi_list_str, isi_list_tuple, isi_list_list, isi_list_dict, isi_tuple_NoneType, isi_tuple_bool, isi_tuple_int, isi_tuple_str, isi_tuple_tuple, isi_tuple_list, isi_tuple_dict, isi_dict_NoneType, isi_dict_bool, isi_dict_int, isi_dict_str, isi_dict_tuple, isi_dict_list, isi_dict_dict, List.map_cons, List.map_nil, List.cons_append, List.nil_append, List.length_cons, List.length_nil, List.replicate_succ, List.replicate_zero, Nat.reduceAdd, Nat.reduceSub, Nat.zero_add, true_and, and_true, Bool.not_true, Bool.not_false, Bool.true_or, Bool.or_true, Bool.false_or, Bool.or_false, if_true, if_false, Bool.false_eq_true])
          rw [sl_last2 (by omega)]
          rw [intsD_tI] at h1
          exact h1 _ rfl
        have em : (ss.map tI).map (fun d => tI (last2 (intsD d))) = (ss.map last2).map tI := by
          rw [List.map_map, List.map_map]
          congr 1
          funext s
          show tI (last2 (intsD (tI s))) = tI (last2 s)
          rw [intsD_tI]
        rw [em]
        have hS2 := sums_last hS (by omega)
        (try simp only [wC_ap, wSetI_ap, wExpr_ap, wRet_ap, wRetN_ap, wRet0_ap, wIf_ap, wFor_ap, wWhile_ap, wBreak_ap, wCont_ap, wNever_ap, wPick_ap, wCallL_ap, wOp_ap, wIxO_ap, wNoPart_ap, wPart_ap, wSl_ap, wUn_ap, wTest_ap, wChain_ap, wTru_ap, wNotT_ap, wAndT_ap, wOrT_ap, wAnd_ap, wOr_ap, wNot_ap, wIfE_ap, wNil_ap, wCons_ap, wTup_ap, wLst_ap, wCall_ap, wCall0_ap, wCallIo_ap, wYes_ap, wGn_ap, wSr_ap, wEn_ap, wZp_ap, wRg1_ap, wRg2_ap, wLc_ap, wMeth_ap, wMeth0_ap, wNext_ap, wSeq_ap, wAsg_ap, wSet_ap, wV_ap, wPar_ap, par2_ap, wGnil_ap, wGcons_ap, wGtup_ap, sl_z, sl_s, set_z, set_s, wipe_z, wipe_s, rest_z, rest_s, oAdd_i, oAdd_t, oAdd_l, oAdd_s, oSub_i, oMul_i, oMul_t, oII_i, oII0_i, oIx_l, oIx_t, oIx_f, oIsN_n, oNotN_n, oLen_l, oLen_t, oLen_f, oInt_i, oInt_b, oI1_i, oNeg_i, oList_l, oList_t, oTuple_l, oTuple_t, oBs_l, oSl_l, oSl_t, oIsi_ap, oIsi2_ap, tyD_n, tyD_b, tyD_i, tyD_s, tyD_t, tyD_l, tyD_f, truD_n, truD_b, truD_i, truD_t, truD_l, asB_b, asI_i, asL_l, isL_l, isL_t, isL_i, isL_b, isL_n, itD_l, itD_t, itD_f, fApp_ap, fExt_ap, ex_some, onS_ap, ite_t, ite_f, bodyD_ap, ioD_c, start_ap, isi_int_NoneType, isi_int_bool, isi_int_int, isi_int_str, isi_int_tuple, isi_int_list, isi_int_dict, isi_bool_NoneType, isi_bool_bool, isi_bool_int, isi_bool_str, isi_bool_tuple, isi_bool_list, isi_bool_dict, isi_str_NoneType, isi_str_bool, isi_str_int, isi_str_str, isi_str_tuple, isi_str_list, isi_str_dict, isi_list_NoneType, isi_list_bool, isi_list_int, isi_list_str, isi_list_tuple, isi_list_list, isi_list_dict, isi_tuple_NoneType, isi_tuple_bool, isi_tuple_int, isi_tuple_str, isi_tuple_tuple, isi_tuple_list, isi_tuple_dict, isi_dict_NoneType, isi_dict_bool, isi_dict_int, isi_dict_str, isi_dict_tuple, isi_dict_list, isi_dict_dict, List.map_cons, List.map_nil, List.cons_append, List.nil_append, List.length_cons, List.length_nil, List.replicate_succ, List.replicate_zero, Nat.reduceAdd, Nat.reduceSub, Nat.zero_add, true_and, and_true, Bool.not_true, Bool.not_false, Bool.true_or, Bool.or_true, Bool.false_or, Bool.or_false, if_true, if_false, Bool.false_eq_true])
        refine ⟨⟨by decide, by decide⟩, ?_⟩

        refine for_inv (fun pre ε => ∃ b0 b1 b2 o6, ε = [some (.frz (ns.map D.int)), some (.int i), some (.lst [.int b0, .int b1, .int b2]), some (.int (1 : Nat)), some (.int ((1 + z12) : Nat)), some (.lst ((ss.map last2).map tI)), o6, none] ∧ 0 ≤ b1 ∧ b1 < 2147483648) ?_ ?_ ⟨g0, g1, g2, o6, rfl, hg1, hg2⟩
        · rintro pre2 d2 r2 ε2 e2 ⟨b0, b1, b2, o6, rfl, hb1, hb2⟩ N2 hN2
          (try simp only [wC_ap, wSetI_ap, wExpr_ap, wRet_ap, wRetN_ap, wRet0_ap, wIf_ap, wFor_ap, wWhile_ap, wBreak_ap, wCont_ap, wNever_ap, wPick_ap, wCallL_ap, wOp_ap, wIxO_ap, wNoPart_ap, wPart_ap, wSl_ap, wUn_ap, wTest_ap, wChain_ap, wTru_ap, wNotT_ap, wAndT_ap, wOrT_ap, wAnd_ap, wOr_ap, wNot_ap, wIfE_ap, wNil_ap, wCons_ap, wTup_ap, wLst_ap, wCall_ap, wCall0_ap, wCallIo_ap, wYes_ap, wGn_ap, wSr_ap, wEn_ap, wZp_ap, wRg1_ap, wRg2_ap, wLc_ap, wMeth_ap, wMeth0_ap, wNext_ap, wSeq_ap, wAsg_ap, wSet_ap, wV_ap, wPar_ap, par2_ap, wGnil_ap, wGcons_ap, wGtup_ap, sl_z, sl_s, set_z, set_s, wipe_z, wipe_s, rest_z, rest_s, oAdd_i, oAdd_t, oAdd_l, oAdd_s, oSub_i, oMul_i, oMul_t, oII_i, oII0_i, oIx_l, oIx_t, oIx_f, oIsN_n, oNotN_n, oLen_l, oLen_t, oLen_f, oInt_i, oInt_b, oI1_i, oNeg_i, oList_l, oList_t, oTuple_l, oTuple_t, oBs_l, oSl_l, oSl_t, oIsi_ap, oIsi2_ap, tyD_n, tyD_b, tyD_i, tyD_s, tyD_t, tyD_l, tyD_f, truD_n, truD_b, truD_i, truD_t, truD_l, asB_b, asI_i, asL_l, isL_l, isL_t, isL_i, isL_b, isL_n, itD_l, itD_t, itD_f, fApp_ap, fExt_ap, ex_some, onS_ap, ite_t, ite_f, bodyD_ap, ioD_c, start_ap, isi_int_NoneType, isi_int_bool, isi_int_int, isi_int_str, isi_int_tuple, isi_int_list, isi_int_dict, isi_bool_NoneType, isi_bool_bool, isi_bool_int, isi_bool_str, isi_bool_tuple, isi_bool_list, isi_bool_dict, isi_str_NoneType, isi_str_bool, isi_str_int, isi_str_str, isi_str_tuple, isi_str_list, isi_str_dict, isi_list_NoneType, isi_list_bool, isi_list_int, isi_list_str, isi_list_tuple, isi_list_list, isi_list_dict, isi_tuple_NoneType, isi_tuple_bool, isi_tuple_int, isi_tuple_str, isi_tuple_tuple, isi_tuple_list, isi_tuple_dict, isi_dict_NoneType, isi_dict_bool, isi_dict_int, isi_dict_str, isi_dict_tuple, isi_dict_list, isi_dict_dict, List.map_cons, List.map_nil, List.cons_append, List.nil_append, List.length_cons, List.length_nil, List.replicate_succ, List.replicate_zero, Nat.reduceAdd, Nat.reduceSub, Nat.zero_add, true_and, and_true, Bool.not_true, Bool.not_false, Bool.true_or, Bool.or_true, Bool.false_or, Bool.or_false, if_true, if_false, Bool.false_eq_true])
          refine ⟨(.lst [.int b0, .int b1, .int b2], (1 : Nat)), rfl, tkp hb1 hb2 (by omega) (by omega), ?_⟩
          rintro r c' ⟨⟨z, rfl, hz⟩, y0, y1, y2, rfl, hy1, hy2⟩
          have hz : (z : Int) < (1 : Nat) := hz
          (try simp only [wC_ap, wSetI_ap, wExpr_ap, wRet_ap, wRetN_ap, wRet0_ap, wIf_ap, wFor_ap, wWhile_ap, wBreak_ap, wCont_ap, wNever_ap, wPick_ap, wCallL_ap, wOp_ap, wIxO_ap, wNoPart_ap, wPart_ap, wSl_ap, wUn_ap, wTest_ap, wChain_ap, wTru_ap, wNotT_ap, wAndT_ap, wOrT_ap, wAnd_ap, wOr_ap, wNot_ap, wIfE_ap, wNil_ap, wCons_ap, wTup_ap, wLst_ap, wCall_ap, wCall0_ap, wCallIo_ap, wYes_ap, wGn_ap, wSr_ap, wEn_ap, wZp_ap, wRg1_ap, wRg2_ap, wLc_ap, wMeth_ap, wMeth0_ap, wNext_ap, wSeq_ap, wAsg_ap, wSet_ap, wV_ap, wPar_ap, par2_ap, wGnil_ap, wGcons_ap, wGtup_ap, sl_z, sl_s, set_z, set_s, wipe_z, wipe_s, rest_z, rest_s, oAdd_i, oAdd_t, oAdd_l, oAdd_s, oSub_i, oMul_i, oMul_t, oII_i, oII0_i, oIx_l, oIx_t, oIx_f, oIsN_n, oNotN_n, oLen_l, oLen_t, oLen_f, oInt_i, oInt_b, oI1_i, oNeg_i, oList_l, oList_t, oTuple_l, oTuple_t, oBs_l, oSl_l, oSl_t, oIsi_ap, oIsi2_ap, tyD_n, tyD_b, tyD_i, tyD_s, tyD_t, tyD_l, tyD_f, truD_n, truD_b, truD_i, truD_t, truD_l, asB_b, asI_i, asL_l, isL_l, isL_t, isL_i, isL_b, isL_n, itD_l, itD_t, itD_f, fApp_ap, fExt_ap, ex_some, onS_ap, ite_t, ite_f, bodyD_ap, ioD_c, start_ap, isi_int_NoneType, isi_int_bool, isi_int_int, isi_int_str, isi_int_tuple, isi_int_list, isi_int_dict, isi_bool_NoneType, isi_bool_bool, isi_bool_int, isi_bool_str, isi_bool_tuple, isi_bool_list, isi_bool_dict, isi_str_NoneType, isi_str_bool, isi_str_int, isi_str_str, isi_str_tuple, isi_str_list, isi_str_dict, isi_list_NoneType, isi_list_bool, isi_list_int, isi_list_str, isi_list_tuple, isi_list_list, isi_list_dict, isi_tuple_NoneType, isi_tuple_bool, isi_tuple_int, isi_tuple_str, isi_tuple_tuple, isi_tuple_list, isi_tuple_dict, isi_dict_NoneType, isi_dict_bool, isi_dict_int, isi_dict_str, isi_dict_tuple, isi_dict_list, isi_dict_dict, List.map_cons, List.map_nil, List.cons_append, List.nil_append, List.length_cons, List.length_nil, List.replicate_succ, List.replicate_zero, Nat.reduceAdd, Nat.reduceSub, Nat.zero_add, true_and, and_true, Bool.not_true, Bool.not_false, Bool.true_or, Bool.or_true, Bool.false_or, Bool.or_false, if_true, if_false, Bool.false_eq_true])
          refine ⟨(.lst [.int y0, .int y1, .int y2], (ss.map last2), 1, z), rfl, ⟨⟨_, _, _, rfl, hy1, hy2⟩, (show CastOk (ss.map last2) 1 z from sums_cast hS2 (by omega) (by omega) (by omega) (by omega))⟩, ?_⟩
          rintro r c' ⟨rfl, w0, w1, w2, rfl, hw1, hw2⟩
          (try simp only [wC_ap, wSetI_ap, wExpr_ap, wRet_ap, wRetN_ap, wRet0_ap, wIf_ap, wFor_ap, wWhile_ap, wBreak_ap, wCont_ap, wNever_ap, wPick_ap, wCallL_ap, wOp_ap, wIxO_ap, wNoPart_ap, wPart_ap, wSl_ap, wUn_ap, wTest_ap, wChain_ap, wTru_ap, wNotT_ap, wAndT_ap, wOrT_ap, wAnd_ap, wOr_ap, wNot_ap, wIfE_ap, wNil_ap, wCons_ap, wTup_ap, wLst_ap, wCall_ap, wCall0_ap, wCallIo_ap, wYes_ap, wGn_ap, wSr_ap, wEn_ap, wZp_ap, wRg1_ap, wRg2_ap, wLc_ap, wMeth_ap, wMeth0_ap, wNext_ap, wSeq_ap, wAsg_ap, wSet_ap, wV_ap, wPar_ap, par2_ap, wGnil_ap, wGcons_ap, wGtup_ap, sl_z, sl_s, set_z, set_s, wipe_z, wipe_s, rest_z, rest_s, oAdd_i, oAdd_t, oAdd_l, oAdd_s, oSub_i, oMul_i, oMul_t, oII_i, oII0_i, oIx_l, oIx_t, oIx_f, oIsN_n, oNotN_n, oLen_l, oLen_t, oLen_f, oInt_i, oInt_b, oI1_i, oNeg_i, oList_l, oList_t, oTuple_l, oTuple_t, oBs_l, oSl_l, oSl_t, oIsi_ap, oIsi2_ap, tyD_n, tyD_b, tyD_i, tyD_s, tyD_t, tyD_l, tyD_f, truD_n, truD_b, truD_i, truD_t, truD_l, asB_b, asI_i, asL_l, isL_l, isL_t, isL_i, isL_b, isL_n, itD_l, itD_t, itD_f, fApp_ap, fExt_ap, ex_some, onS_ap, ite_t, ite_f, bodyD_ap, ioD_c, start_ap, isi_int_NoneType, isi_int_bool, isi_int_int, isi_int_str, isi_int_tuple, isi_int_list, isi_int_dict, isi_bool_NoneType, isi_bool_bool, isi_bool_int, isi_bool_str, isi_bool_tuple, isi_bool_list, isi_bool_dict, isi_str_NoneType, isi_str_bool, isi_str_int, isi_str_str, isi_str_tuple, isi_str_list, isi_str_dict, isi_list_NoneType, isi_list_bool, isi_list_int, isi_list_str, isi_list_tuple, isi_list_list, isi_list_dict, isi_tuple_NoneType, isi_tuple_bool, isi_tuple_int, isi_tuple_str, isi_tuple_tuple, isi_tuple_list, isi_tuple_dict, isi_dict_NoneType, isi_dict_bool, isi_dict_int, isi_dict_str, isi_dict_tuple, isi_dict_list, isi_dict_dict, List.map_cons, List.map_nil, List.cons_append, List.nil_append, List.length_cons, List.length_nil, List.replicate_succ, List.replicate_zero, Nat.reduceAdd, Nat.reduceSub, Nat.zero_add, true_and, and_true, Bool.not_true, Bool.not_false, Bool.true_or, Bool.or_true, Bool.false_or, Bool.or_false, if_true, if_false, Bool.false_eq_true])
          exact hN2 _ ⟨w0, w1, w2, _, rfl, hw1, hw2⟩
        · rintro ε2 ⟨b0, b1, b2, o6, rfl, hb1, hb2⟩
          (try simp only [wC_ap, wSetI_ap, wExpr_ap, wRet_ap, wRetN_ap, wRet0_ap, wIf_ap, wFor_ap, wWhile_ap, wBreak_ap, wCont_ap, wNever_ap, wPick_ap, wCallL_ap, wOp_ap, wIxO_ap, wNoPart_ap, wPart_ap, wSl_ap, wUn_ap, wTest_ap, wChain_ap, wTru_ap, wNotT_ap, wAndT_ap, wOrT_ap, wAnd_ap, wOr_ap, wNot_ap, wIfE_ap, wNil_ap, wCons_ap, wTup_ap, wLst_ap, wCall_ap, wCall0_ap, wCallIo_ap, wYes_ap, wGn_ap, wSr_ap, wEn_ap, wZp_ap, wRg1_ap, wRg2_ap, wLc_ap, wMeth_ap, wMeth0_ap, wNext_ap, wSeq_ap, wAsg_ap, wSet_ap, wV_ap, wPar_ap, par2_ap, wGnil_ap, wGcons_ap, wGtup_ap, sl_z, sl_s, set_z, set_s, wipe_z, wipe_s, rest_z, rest_s, oAdd_i, oAdd_t, oAdd_l, oAdd_s, oSub_i, oMul_i, oMul_t, oII_i, oII0_i, oIx_l, oIx_t, oIx_f, oIsN_n, oNotN_n, oLen_l, oLen_t, oLen_f, oInt_i, oInt_b, oI1_i, oNeg_i, oList_l, oList_t, oTuple_l, oTuple_t, oBs_l, oSl_l, oSl_t, oIsi_ap, oIsi2_ap, tyD_n, tyD_b, tyD_i, tyD_s, tyD_t, tyD_l, tyD_f, truD_n, truD_b, truD_i, truD_t, truD_l, asB_b, asI_i, asL_l, isL_l, isL_t, isL_i, isL_b, isL_n, itD_l, itD_t, itD_f, fApp_ap, fExt_ap, ex_some, onS_ap, ite_t, ite_f, bodyD_ap, ioD_c, start_ap, isi_int_NoneType, isi_int_bool, isi_int_int, isi_int_str, isi_int_tuple, isi_int_list, isi_int_dict, isi_bool_NoneType, isi_bool_bool, isi_bool_int, isi_bool_str, isi_bool_tuple, isi_bool_list, isi_bool_dict, isi_str_NoneType, isi_str_bool, isi_str_int, isi_str_str, isi_str_tuple, isi_str_list, isi_str_dict, isi_list_NoneType, isi_list_bool, isi_list_int, isi_list_str, isi_list_tuple, isi_list_list, isi_list_dict, isi_tuple_NoneType, isi_tuple_bool, isi_tuple_int, isi_tuple_str, isi_tuple_tuple, isi_tuple_list, isi_tuple_dict, isi_dict_NoneType, isi_dict_bool, isi_dict_int, isi_dict_str, isi_dict_tuple, isi_dict_list, isi_dict_dict, List.map_cons, List.map_nil, List.cons_append, List.nil_append, List.length_cons, List.length_nil, List.replicate_succ, List.replicate_zero, Nat.reduceAdd, Nat.reduceSub, Nat.zero_add, true_and, and_true, Bool.not_true, Bool.not_false, Bool.true_or, Bool.or_true, Bool.false_or, Bool.or_false, if_true, if_false, Bool.false_eq_true])
          exact hN _ ⟨_, _, _, _, _, _, rfl⟩

      · rw [decide_eq_false h8']
        (try simp only [wC_ap, wSetI_ap, wExpr_ap, wRet_ap, wRetN_ap, wRet0_ap, wIf_ap, wFor_ap, wWhile_ap, wBreak_ap, wCont_ap, wNever_ap, wPick_ap, wCallL_ap, wOp_ap, wIxO_ap, wNoPart_ap, wPart_ap, wSl_ap, wUn_ap, wTest_ap, wChain_ap, wTru_ap, wNotT_ap, wAndT_ap, wOrT_ap, wAnd_ap, wOr_ap, wNot_ap, wIfE_ap, wNil_ap, wCons_ap, wTup_ap, wLst_ap, wCall_ap, wCall0_ap, wCallIo_ap, wYes_ap, wGn_ap, wSr_ap, wEn_ap, wZp_ap, wRg1_ap, wRg2_ap, wLc_ap, wMeth_ap, wMeth0_ap, wNext_ap, wSeq_ap, wAsg_ap, wSet_ap, wV_ap, wPar_ap, par2_ap, wGnil_ap, wGcons_ap, wGtup_ap, sl_z, sl_s, set_z, set_s, wipe_z, wipe_s, rest_z, rest_s, oAdd_i, oAdd_t, oAdd_l, oAdd_s, oSub_i, oMul_i, oMul_t, oII_i, oII0_i, oIx_l, oIx_t, oIx_f, oIsN_n, oNotN_n, oLen_l, oLen_t, oLen_f, oInt_i, oInt_b, oI1_i, oNeg_i, oList_l, oList_t, oTuple_l, oTuple_t, oBs_l, oSl_l, oSl_t, oIsi_ap, oIsi2_ap, tyD_n, tyD_b, tyD_i, tyD_s, tyD_t, tyD_l, tyD_f, truD_n, truD_b, truD_i, truD_t, truD_l, asB_b, asI_i, asL_l, isL_l, isL_t, isL_i, isL_b, isL_n, itD_l, itD_t, itD_f, fApp_ap, fExt_ap, ex_some, onS_ap, ite_t, ite_f, bodyD_ap, ioD_c, start_ap, isi_int_NoneType, isi_int_bool, isi_int_int, isi_int_str, isi_int_tuple, isi_int_list, isi_int_dict, isi_bool_NoneType, isi_bool_bool, isi_bool_int, isi_bool_str, isi_bool_tuple, isi_bool_list, isi_bool_dict, isi_str_NoneType, isi_str_bool, isi_str_int, isi_str_str, isi_str_tuple, isi_str_list, isi_str_dict, isi_list_NoneType, isi_list_bool, isi_list_int, isi_list_str, isi_list_tuple, isi_list_list, isi_list_dict, isi_tuple_NoneType, isi_tuple_bool, isi_tuple_int, isi_tuple_str, isi_tuple_tuple, isi_tuple_list, isi_tuple_dict, isi_dict_NoneType, isi_dict_bool, isi_dict_int, isi_dict_str, isi_dict_tuple, isi_dict_list, isi_dict_dict, List.map_cons, List.map_nil, List.cons_append, List.nil_append, List.length_cons, List.length_nil, List.replicate_succ, List.replicate_zero, Nat.reduceAdd, Nat.reduceSub, Nat.zero_add, true_and, and_true, Bool.not_true, Bool.not_false, Bool.true_or, Bool.or_true, Bool.false_or, Bool.or_false, if_true, if_false, Bool.false_eq_true])
        refine ⟨⟨by decide, by decide⟩, ?_⟩

        refine for_inv (fun pre ε => ∃ b0 b1 b2 o6, ε = [some (.frz (ns.map D.int)), some (.int i), some (.lst [.int b0, .int b1, .int b2]), some (.int ((1 + z5) : Nat)), some (.int ((1 + z12) : Nat)), some (.lst (ss.map tI)), o6, none] ∧ 0 ≤ b1 ∧ b1 < 2147483648) ?_ ?_ ⟨g0, g1, g2, o6, rfl, hg1, hg2⟩
        · rintro pre2 d2 r2 ε2 e2 ⟨b0, b1, b2, o6, rfl, hb1, hb2⟩ N2 hN2
          (try simp only [wC_ap, wSetI_ap, wExpr_ap, wRet_ap, wRetN_ap, wRet0_ap, wIf_ap, wFor_ap, wWhile_ap, wBreak_ap, wCont_ap, wNever_ap, wPick_ap, wCallL_ap, wOp_ap, wIxO_ap, wNoPart_ap, wPart_ap, wSl_ap, wUn_ap, wTest_ap, wChain_ap, wTru_ap, wNotT_ap, wAndT_ap, wOrT_ap, wAnd_ap, wOr_ap, wNot_ap, wIfE_ap, wNil_ap, wCons_ap, wTup_ap, wLst_ap, wCall_ap, wCall0_ap, wCallIo_ap, wYes_ap, wGn_ap, wSr_ap, wEn_ap, wZp_ap, wRg1_ap, wRg2_ap, wLc_ap, wMeth_ap, wMeth0_ap, wNext_ap, wSeq_ap, wAsg_ap, wSet_ap, wV_ap, wPar_ap, par2_ap, wGnil_ap, wGcons_ap, wGtup_ap, sl_z, sl_s, set_z, set_s, wipe_z, wipe_s, rest_z, rest_s, oAdd_i, oAdd_t, oAdd_l, oAdd_s, oSub_i, oMul_i, oMul_t, oII_i, oII0_i, oIx_l, oIx_t, oIx_f, oIsN_n, oNotN_n, oLen_l, oLen_t, oLen_f, oInt_i, oInt_b, oI1_i, oNeg_i, oList_l, oList_t, oTuple_l, oTuple_t, oBs_l, oSl_l, oSl_t, oIsi_ap, oIsi2_ap, tyD_n, tyD_b, tyD_i, tyD_s, tyD_t, tyD_l, tyD_f, truD_n, truD_b, truD_i, truD_t, truD_l, asB_b, asI_i, asL_l, isL_l, isL_t, isL_i, isL_b, isL_n, itD_l, itD_t, itD_f, fApp_ap, fExt_ap, ex_some, onS_ap, ite_t, ite_f, bodyD_ap, ioD_c, start_ap, isi_int_NoneType, isi_int_bool, isi_int_int, isi_int_str, isi_int_tuple, isi_int_list, isi_int_dict, isi_bool_NoneType, isi_bool_bool, isi_bool_int, isi_bool_str, isi_bool_tuple, isi_bool_list, isi_bool_dict, isi_str_NoneType, isi_str_bool, isi_str_int, isi_str_str, isi_str_tuple, isi_str_list, isi_str_dict, isi_list_NoneType, isi_list_bool, isi_list_int, isi_list_str, isi_list_tuple, isi_list_list, isi_list_dict, isi_tuple_NoneType, isi_tuple_bool, isi_tuple_int, isi_tuple_str, isi_tuple_tuple, isi_tuple_list, isi_tuple_dict, isi_dict_NoneType, isi_dict_bool, isi_dict_int, isi_dict_str, isi_dict_tuple, isi_dict_list, isi_dict_dict, List.map_cons, List.map_nil, List.cons_append, List.nil_append, List.length_cons, List.length_nil, List.replicate_succ, List.replicate_zero, Nat.reduceAdd, Nat.reduceSub, Nat.zero_add, true_and, and_true, Bool.not_true, Bool.not_false, Bool.true_or, Bool.or_true, Bool.false_or, Bool.or_false, if_true, if_false, Bool.false_eq_true])
          refine ⟨(.lst [.int b0, .int b1, .int b2], ((1 + z5) : Nat)), rfl, tkp hb1 hb2 (by omega) (by omega), ?_⟩
          rintro r c' ⟨⟨z, rfl, hz⟩, y0, y1, y2, rfl, hy1, hy2⟩
          have hz : (z : Int) < ((1 + z5) : Nat) := hz
          (try simp only [wC_ap, wSetI_ap, wExpr_ap, wRet_ap, wRetN_ap, wRet0_ap, wIf_ap, wFor_ap, wWhile_ap, wBreak_ap, wCont_ap, wNever_ap, wPick_ap, wCallL_ap, wOp_ap, wIxO_ap, wNoPart_ap, wPart_ap, wSl_ap, wUn_ap, wTest_ap, wChain_ap, wTru_ap, wNotT_ap, wAndT_ap, wOrT_ap, wAnd_ap, wOr_ap, wNot_ap, wIfE_ap, wNil_ap, wCons_ap, wTup_ap, wLst_ap, wCall_ap, wCall0_ap, wCallIo_ap, wYes_ap, wGn_ap, wSr_ap, wEn_ap, wZp_ap, wRg1_ap, wRg2_ap, wLc_ap, wMeth_ap, wMeth0_ap, wNext_ap, wSeq_ap, wAsg_ap, wSet_ap, wV_ap, wPar_ap, par2_ap, wGnil_ap, wGcons_ap, wGtup_ap, sl_z, sl_s, set_z, set_s, wipe_z, wipe_s, rest_z, rest_s, oAdd_i, oAdd_t, oAdd_l, oAdd_s, oSub_i, oMul_i, oMul_t, oII_i, oII0_i, oIx_l, oIx_t, oIx_f, oIsN_n, oNotN_n, oLen_l, oLen_t, oLen_f, oInt_i, oInt_b, oI1_i, oNeg_i, oList_l, oList_t, oTuple_l, oTuple_t, oBs_l, oSl_l, oSl_t, oIsi_ap, oIsi2_ap, tyD_n, tyD_b, tyD_i, tyD_s, tyD_t, tyD_l, tyD_f, truD_n, truD_b, truD_i, truD_t, truD_l, asB_b, asI_i, asL_l, isL_l, isL_t, isL_i, isL_b, isL_n, itD_l, itD_t, itD_f, fApp_ap, fExt_ap, ex_some, onS_ap, ite_t, ite_f, bodyD_ap, ioD_c, start_ap, isi_int_NoneType, isi_int_bool, isi_int_int, isi_int_str, isi_int_tuple, isi_int_list, isi_int_dict, isi_bool_NoneType, isi_bool_bool, isi_bool_int, isi_bool_str, isi_bool_tuple, isi_bool_list, isi_bool_dict, isi_str_NoneType, isi_str_bool, isi_str_int, isi_str_str, isi_str_tuple, isi_str_list, isi_str_dict, isi_list_NoneType, isi_list_bool, isi_list_int, isi_list_str, isi_list_tuple, isi_list_list, isi_list_dict, isi_tuple_NoneType, isi_tuple_bool, isi_tuple_int, isi_tuple_str, isi_tuple_tuple, isi_tuple_list, isi_tuple_dict, isi_dict_NoneType, isi_dict_bool, isi_dict_int, isi_dict_str, isi_dict_tuple, isi_dict_list, isi_dict_dict, List.map_cons, List.map_nil, List.cons_append, List.nil_append, List.length_cons, List.length_nil, List.replicate_succ, List.replicate_zero, Nat.reduceAdd, Nat.reduceSub, Nat.zero_add, true_and, and_true, Bool.not_true, Bool.not_false, Bool.true_or, Bool.or_true, Bool.false_or, Bool.or_false, if_true, if_false, Bool.false_eq_true])
          refine ⟨(.lst [.int y0, .int y1, .int y2], ss, (1 + z5), z), rfl, ⟨⟨_, _, _, rfl, hy1, hy2⟩, (show CastOk ss (1 + z5) z from sums_cast hS (by omega) (by omega) (by omega) (by omega))⟩, ?_⟩
          rintro r c' ⟨rfl, w0, w1, w2, rfl, hw1, hw2⟩
          (try simp only [wC_ap, wSetI_ap, wExpr_ap, wRet_ap, wRetN_ap, wRet0_ap, wIf_ap, wFor_ap, wWhile_ap, wBreak_ap, wCont_ap, wNever_ap, wPick_ap, wCallL_ap, wOp_ap, wIxO_ap, wNoPart_ap, wPart_ap, wSl_ap, wUn_ap, wTest_ap, wChain_ap, wTru_ap, wNotT_ap, wAndT_ap, wOrT_ap, wAnd_ap, wOr_ap, wNot_ap, wIfE_ap, wNil_ap, wCons_ap, wTup_ap, wLst_ap, wCall_ap, wCall0_ap, wCallIo_ap, wYes_ap, wGn_ap, wSr_ap, wEn_ap, wZp_ap, wRg1_ap, wRg2_ap, wLc_ap, wMeth_ap, wMeth0_ap, wNext_ap, wSeq_ap, wAsg_ap, wSet_ap, wV_ap, wPar_ap, par2_ap, wGnil_ap, wGcons_ap, wGtup_ap, sl_z, sl_s, set_z, set_s, wipe_z, wipe_s, rest_z, rest_s, oAdd_i, oAdd_t, oAdd_l, oAdd_s, oSub_i, oMul_i, oMul_t, oII_i, oII0_i, oIx_l, oIx_t, oIx_f, oIsN_n, oNotN_n, oLen_l, oLen_t, oLen_f, oInt_i, oInt_b, oI1_i, oNeg_i, oList_l, oList_t, oTuple_l, oTuple_t, oBs_l, oSl_l, oSl_t, oIsi_ap, oIsi2_ap, tyD_n, tyD_b, tyD_i, tyD_s, tyD_t, tyD_l, tyD_f, truD_n, truD_b, truD_i, truD_t, truD_l, asB_b, asI_i, asL_l, isL_l, isL_t, isL_i, isL_b, isL_n, itD_l, itD_t, itD_f, fApp_ap, fExt_ap, ex_some, onS_ap, ite_t, ite_f, bodyD_ap, ioD_c, start_ap, isi_int_NoneType, isi_int_bool, isi_int_int, isi_int_str, isi_int_tuple, isi_int_list, isi_int_dict, isi_bool_NoneType, isi_bool_bool, isi_bool_int, isi_bool_str, isi_bool_tuple, isi_bool_list, isi_bool_dict, isi_str_NoneType, isi_str_bool, isi_str_int, isi_str_str, isi_str_tuple, isi_str_list, isi_str_dict, isi_list_NoneType, isi_list_bool, isi_list_int, isi_list_str, isi_list_tuple, isi_list_list, isi_list_dict, isi_tuple_NoneType, isi_tuple_bool, isi_tuple_int, isi_tuple_str, isi_tuple_tuple, isi_tuple_list, isi_tuple_dict, isi_dict_NoneType, isi_dict_bool, isi_dict_int, isi_dict_str, isi_dict_tuple, isi_dict_list, isi_dict_dict, List.map_cons, List.map_nil, List.cons_append, List.nil_append, List.length_cons, List.length_nil, List.replicate_succ, List.replicate_zero, Nat.reduceAdd, Nat.reduceSub, Nat.zero_add, true_and, and_true, Bool.not_true, Bool.not_false, Bool.true_or, Bool.or_true, Bool.false_or, Bool.or_false, if_true, if_false, Bool.false_eq_true])
          exact hN2 _ ⟨w0, w1, w2, _, rfl, hw1, hw2⟩
        · rintro ε2 ⟨b0, b1, b2, o6, rfl, hb1, hb2⟩
          (try simp only [wC_ap, wSetI_ap, wExpr_ap, wRet_ap, wRetN_ap, wRet0_ap, wIf_ap, wFor_ap, wWhile_ap, wBreak_ap, wCont_ap, wNever_ap, wPick_ap, wCallL_ap, wOp_ap, wIxO_ap, wNoPart_ap, wPart_ap, wSl_ap, wUn_ap, wTest_ap, wChain_ap, wTru_ap, wNotT_ap, wAndT_ap, wOrT_ap, wAnd_ap, wOr_ap, wNot_ap, wIfE_ap, wNil_ap, wCons_ap, wTup_ap, wLst_ap, wCall_ap, wCall0_ap, wCallIo_ap, wYes_ap, wGn_ap, wSr_ap, wEn_ap, wZp_ap, wRg1_ap, wRg2_ap, wLc_ap, wMeth_ap, wMeth0_ap, wNext_ap, wSeq_ap, wAsg_ap, wSet_ap, wV_ap, wPar_ap, par2_ap, wGnil_ap, wGcons_ap, wGtup_ap, sl_z, sl_s, set_z, set_s, wipe_z, wipe_s, rest_z, rest_s, oAdd_i, oAdd_t, oAdd_l, oAdd_s, oSub_i, oMul_i, oMul_t, oII_i, oII0_i, oIx_l, oIx_t, oIx_f, oIsN_n, oNotN_n, oLen_l, oLen_t, oLen_f, oInt_i, oInt_b, oI1_i, oNeg_i, oList_l, oList_t, oTuple_l, oTuple_t, oBs_l, oSl_l, oSl_t, oIsi_ap, oIsi2_ap, tyD_n, tyD_b, tyD_i, tyD_s, tyD_t, tyD_l, tyD_f, truD_n, truD_b, truD_i, truD_t, truD_l, asB_b, asI_i, asL_l, isL_l, isL_t, isL_i, isL_b, isL_n, itD_l, itD_t, itD_f, fApp_ap, fExt_ap, ex_some, onS_ap, ite_t, ite_f, bodyD_ap, ioD_c, start_ap, isi_int_NoneType, isi_int_bool, isi_int_int, isi_int_str, isi_int_tuple, isi_int_list, isi_int_dict, isi_bool_NoneType, isi_bool_bool, isi_bool_int, isi_bool_str, isi_bool_tuple, isi_bool_list, isi_bool_dict, isi_str_NoneType, isi_str_bool, isi_str_int, isi_str_str, isi_str_tuple, isi_str_list, isi_str_dict, isi_list_NoneType, isi_list_bool, isi_list_int, isi_list_str, isi_list_tuple, isi_list_list, isi_list_dict, isi_tuple_NoneType, isi_tuple_bool, isi_tuple_int, isi_tuple_str, isi_tuple_tuple, isi_tuple_list, isi_tuple_dict, isi_dict_NoneType, isi_dict_bool, isi_dict_int, isi_dict_str, isi_dict_tuple, isi_dict_list, isi_dict_dict, List.map_cons, List.map_nil, List.cons_append, List.nil_append, List.length_cons, List.length_nil, List.replicate_succ, List.replicate_zero, Nat.reduceAdd, Nat.reduceSub, Nat.zero_add, true_and, and_true, Bool.not_true, Bool.not_false, Bool.true_or, Bool.or_true, Bool.false_or, Bool.or_false, if_true, if_false, Bool.false_eq_true])
          exact hN _ ⟨_, _, _, _, _, _, rfl⟩

  · rintro ε ⟨o1, o2, o3, o4, o5, o6, rfl⟩
    (try simp only [wC_ap, wSetI_ap, wExpr_ap, wRet_ap, wRetN_ap, wRet0_ap, wIf_ap, wFor_ap, wWhile_ap, wBreak_ap, wCont_ap, wNever_ap, wPick_ap, wCallL_ap, wOp_ap, wIxO_ap, wNoPart_ap, wPart_ap, wSl_ap, wUn_ap, wTest_ap, wChain_ap, wTru_ap, wNotT_ap, wAndT_ap, wOrT_ap, wAnd_ap, wOr_ap, wNot_ap, wIfE_ap, wNil_ap, wCons_ap, wTup_ap, wLst_ap, wCall_ap, wCall0_ap, wCallIo_ap, wYes_ap, wGn_ap, wSr_ap, wEn_ap, wZp_ap, wRg1_ap, wRg2_ap, wLc_ap, wMeth_ap, wMeth0_ap, wNext_ap, wSeq_ap, wAsg_ap, wSet_ap, wV_ap, wPar_ap, par2_ap, wGnil_ap, wGcons_ap, wGtup_ap, sl_z, sl_s, set_z, set_s, wipe_z, wipe_s, rest_z, rest_s, oAdd_i, oAdd_t, oAdd_l, oAdd_s, oSub_i, oMul_i, oMul_t, oII_i, oII0_i, oIx_l, oIx_t, oIx_f, oIsN_n, oNotN_n, oLen_l, oLen_t, oLen_f, oInt_i, oInt_b, oI1_i, oNeg_i, oList_l, oList_t, oTuple_l, oTuple_t, oBs_l, oSl_l, oSl_t, oIsi_ap, oIsi2_ap, tyD_n, tyD_b, tyD_i, tyD_s, tyD_t, tyD_l, tyD_f, truD_n, truD_b, truD_i, truD_t, truD_l, asB_b, asI_i, asL_l, isL_l, isL_t, isL_i, isL_b, isL_n, itD_l, itD_t, itD_f, fApp_ap, fExt_ap, ex_some, onS_ap, ite_t, ite_f, bodyD_ap, ioD_c, start_ap, isi_int_NoneType, isi_int_bool, isi_int_int, isi_int_str, isi_int_tuple, isi_int_list, isi_int_dict, isi_bool_NoneType, isi_bool_bool, isi_bool_int, isi_bool_str, isi_bool_tuple, isi_bool_list, isi_bool_dict, isi_str_NoneType, isi_str_bool, isi_str_int, isi_str_str, isi_str_tuple, isi_str_list, isi_str_dict, isi_list_NoneType, isi_list_bool, isi_list_int, isi_list_str, isi_list_tuple, isi_list_list, isi_list_dict, isi_tuple_NoneType, isi_tuple_bool, isi_tuple_int, isi_tuple_str, isi_tuple_tuple, isi_tuple_list, isi_tuple_dict, isi_dict_NoneType, isi_dict_bool, isi_dict_int, isi_dict_str, isi_dict_tuple, isi_dict_list, isi_dict_dict, List.map_cons, List.map_nil, List.cons_append, List.nil_append, List.length_cons, List.length_nil, List.replicate_succ, List.replicate_zero, Nat.reduceAdd, Nat.reduceSub, Nat.zero_add, true_and, and_true, Bool.not_true, Bool.not_false, Bool.true_or, Bool.or_true, Bool.false_or, Bool.or_false, if_true, if_false, Bool.false_eq_true])
    exact q _ _ rfl
end K51
set_option Elab.async false
set_option linter.all false
set_option maxRecDepth 100000
set_option maxHeartbeats 4000000
namespace K51
open PySem PySem.Spec L2 DL
open PyProof.Rows hiding St
section
variable {P : Program} {w : World} {K : PySem.W.Frag} {mg : Str → Option Value} {base : Heap}
theorem ok_is_whole (T : Ev K mg) : FnOk P w K mg base (L2.CX P w) 1 T.a_is_whole T.fd_is_whole ["thing"] (spD K false .pu f_is_whole) :=
  fn_dl (N := N_is_whole) (k := 0) (Γ' := [.sh]) (v := b_is_whole) T.F_is_whole sc_is_whole h_is_whole (by decide) fun cdv A outer s H E c hr =>
  (dss_cons (ds_ret (Γ' := [.sh]) (de_and (de_isi (τ := "int") T.z_isinstance (by decide) (by rfl) T.z_int (by decide +kernel) (de_var 0)).pu (de_one (de_not (de_isi (τ := "bool") T.z_isinstance (by decide) (by rfl) T.z_bool (by decide +kernel) (de_var 0))).pu)))
  dss_nil)
theorem ok_is_within (T : Ev K mg) : FnOk P w K mg base (L2.CX P w) 2 T.a_is_within T.fd_is_within ["thing", "low", "high"] (spD K false .pu f_is_within) :=
  fn_dl (N := N_is_within) (k := 1) (Γ' := [.sh, .sh, .sh]) (v := b_is_within) T.F_is_within sc_is_within h_is_within (by decide) fun cdv A outer s H E c hr =>
  (dss_cons (ds_ret (Γ' := [.sh, .sh, .sh]) (de_and (de_call (ok_is_whole T) m_is_whole (hr.mono (by decide)) (by rfl) T.g_is_whole T.F_is_whole.kp T.b_is_whole (takes_of rfl rfl rfl rfl) (da_cons (de_var 0) da_nil)) (de_one (de_chain op_le op_le opD_le opD_le oII0_mono oII0_mono (de_var 1) (de_var 0) (de_var 2)).pu)))
  dss_nil)
theorem ok_need_whole (T : Ev K mg) : FnOk P w K mg base (L2.CX P w) 2 T.a_need_whole T.fd_need_whole ["thing"] (spD K false .pu f_need_whole) :=
  fn_dl (N := N_need_whole) (k := 1) (Γ' := [.sh]) (v := b_need_whole) T.F_need_whole sc_need_whole h_need_whole (by decide) fun cdv A outer s H E c hr =>
  (dss_cons (ds_if (dt_not (dt_tru (de_call (ok_is_whole T) m_is_whole (hr.mono (by decide)) (by rfl) T.g_is_whole T.F_is_whole.kp T.b_is_whole (takes_of rfl rfl rfl rfl) (da_cons (de_var 0) da_nil)))) (dss_cons (ds_never (Γ' := [.sh]))
  dss_nil) dss_nil)
  dss_nil)
theorem ok_need_by (T : Ev K mg) : FnOk P w K mg base (L2.CX P w) 3 T.a_need_by T.fd_need_by ["thing"] (spD K false .pu f_need_by) :=
  fn_dl (N := N_need_by) (k := 2) (Γ' := [.sh]) (v := b_need_by) T.F_need_by sc_need_by h_need_by (by decide) fun cdv A outer s H E c hr =>
  (dss_cons (ds_expr (de_call (ok_need_whole T) m_need_whole (hr.mono (by decide)) (by rfl) T.g_need_whole T.F_need_whole.kp T.b_need_whole (takes_of rfl rfl rfl rfl) (da_cons (de_var 0) da_nil)))
  (dss_cons (ds_if (dt_cmp op_lt opD_lt oII0_mono (de_var 0) de_int (nomark _)) (dss_cons (ds_never (Γ' := [.sh]))
  dss_nil) dss_nil)
  dss_nil))
theorem ok_least_part (T : Ev K mg) : FnOk P w K mg base (L2.CX P w) 4 T.a_least_part T.fd_least_part ["top", "by"] (spD K false .pu f_least_part) :=
  fn_dl (N := N_least_part) (k := 3) (Γ' := [.sh, .sh, .sh, .sh]) (v := b_least_part) T.F_least_part sc_least_part h_least_part (by decide) fun cdv A outer s H E c hr =>
  (dss_cons (ds_expr (de_call (ok_need_whole T) m_need_whole (hr.mono (by decide)) (by rfl) T.g_need_whole T.F_need_whole.kp T.b_need_whole (takes_of rfl rfl rfl rfl) (da_cons (de_var 0) da_nil)))
  (dss_cons (ds_expr (de_call (ok_need_by T) m_need_by (hr.mono (by decide)) (by rfl) T.g_need_by T.F_need_by.kp T.b_need_by (takes_of rfl rfl rfl rfl) (da_cons (de_var 1) da_nil)))
  (dss_cons (ds_asg (de_divmod T.z_divmod (de_var 0) (de_var 1)).pu (dg_tup rfl (dgs_cons (dg_name 2 sc_least_part.nd) (dgs_cons (dg_name 3 sc_least_part.nd) dgs_nil))))
  (dss_cons (ds_ret (Γ' := [.sh, .sh, .sh, .sh]) (de_bin opR_add opD_add oAdd_mono (de_var 2) (de_intc T.z_int (de_cmp op_gt opD_gt oII0_mono (de_var 3) de_int (nomark _)))).pu)
  dss_nil))))
theorem ok_common_of_two (T : Ev K mg) : FnOk P w K mg base (L2.CX P w) 1 T.a_common_of_two T.fd_common_of_two ["one", "other"] (spD K false .pu f_common_of_two) :=
  fn_dl (N := N_common_of_two) (k := 0) (Γ' := [.sh, .sh]) (v := b_common_of_two) T.F_common_of_two sc_common_of_two h_common_of_two (by decide) fun cdv A outer s H E c hr =>
  (dss_cons (ds_while (passes_of rfl) (dt_cmp op_gt opD_gt oII0_mono (de_var 1) de_int (nomark _)) (dss_cons (ds_par 0 1 rfl sc_common_of_two.nd rfl rfl (by decide) rfl rfl (da_cons (de_var 1) (da_cons (de_bin op_modN opD_mod oII_mono (de_var 0) (de_var 1)).pu da_nil)) (by rfl))
  dss_nil))
  (dss_cons (ds_ret (Γ' := [.sh, .sh]) (de_var 0))
  dss_nil))
theorem ok_common_part (T : Ev K mg) : FnOk P w K mg base (L2.CX P w) 2 T.a_common_part T.fd_common_part ["numbers"] (spD K false .pu f_common_part) :=
  fn_dl (N := N_common_part) (k := 1) (Γ' := [.sh, .sh, .sh]) (v := b_common_part) T.F_common_part sc_common_part h_common_part (by decide) fun cdv A outer s H E c hr =>
  (dss_cons (ds_if (dt_not (dt_tru (de_isi2 (τ := "list") (κ := "tuple") T.z_isinstance (by decide) (by rfl) T.z_list (by decide +kernel) (by decide) (by rfl) T.z_tuple (by decide +kernel) (de_var 0)))) (dss_cons (ds_never (Γ' := [.sh, .sh, .sh]))
  dss_nil) dss_nil)
  (dss_cons (ds_for (passes_of rfl) rfl (di_sr (de_var 0)) (dg_name 1 sc_common_part.nd) (dss_cons (ds_if (dt_not (dt_tru (de_call (ok_is_whole T) m_is_whole (hr.mono (by decide)) (by rfl) T.g_is_whole T.F_is_whole.kp T.b_is_whole (takes_of rfl rfl rfl rfl) (da_cons (de_var 1) da_nil)))) (dss_cons (ds_never (Γ' := [.sh, .sh, .sh]))
  dss_nil) dss_nil)
  dss_nil))
  (dss_cons (ds_set 2 de_int sc_common_part.nd)
  (dss_cons (ds_for (passes_of rfl) rfl (di_sr (de_var 0)) (dg_name 1 sc_common_part.nd) (dss_cons (ds_set 2 (de_call (ok_common_of_two T) m_common_of_two (hr.mono (by decide)) (by rfl) T.g_common_of_two T.F_common_of_two.kp T.b_common_of_two (takes_of rfl rfl rfl rfl) (da_cons (de_var 2) (da_cons (de_abs T.z_abs (de_var 1)).pu da_nil))) sc_common_part.nd)
  dss_nil))
  (dss_cons (ds_ret (Γ' := [.sh, .sh, .sh]) (de_var 2))
  dss_nil)))))
theorem ok_are_wholes (T : Ev K mg) : FnOk P w K mg base (L2.CX P w) 2 T.a_are_wholes T.fd_are_wholes ["thing"] (spD K false .pu f_are_wholes) :=
  fn_dl (N := N_are_wholes) (k := 1) (Γ' := [.sh, .sh]) (v := b_are_wholes) T.F_are_wholes sc_are_wholes h_are_wholes (by decide) fun cdv A outer s H E c hr =>
  (dss_cons (ds_ret (Γ' := [.sh, .sh]) (de_and (de_isi (τ := "tuple") T.z_isinstance (by decide) (by rfl) T.z_tuple (by decide +kernel) (de_var 0)).pu (de_one (de_all rfl T.z_all (de_lc (own := [("number", 1)]) ⟨fun _ _ _ _ _ => (dg_name 1 sc_are_wholes.nd), fun _ _ _ _ _ => dts_nil, fun _ _ _ _ _ => (de_call (ok_is_whole T) m_is_whole (hr.mono (by decide)) (by rfl) T.g_is_whole T.F_is_whole.kp T.b_is_whole takes0 (da_cons (de_var 1) da_nil))⟩ rfl sc_are_wholes.nd (di_sr (de_var 0)) (blkOk_by (own := [("number", 1)]) (N := N_are_wholes) (sc := defScope s_are_wholes) (by decide +kernel)))).pu)))
  dss_nil)
theorem ok_need_sum (T : Ev K mg) : FnOk P w K mg base (L2.CX P w) 3 T.a_need_sum T.fd_need_sum ["thing"] (spD K false .pu f_need_sum) :=
  fn_dl (N := N_need_sum) (k := 2) (Γ' := [.sh]) (v := b_need_sum) T.F_need_sum sc_need_sum h_need_sum (by decide) fun cdv A outer s H E c hr =>
  (dss_cons (ds_if (dw_or (dt_not (dt_tru (de_call (ok_are_wholes T) m_are_wholes (hr.mono (by decide)) (by rfl) T.g_are_wholes T.F_are_wholes.kp T.b_are_wholes (takes_of rfl rfl rfl rfl) (da_cons (de_var 0) da_nil)))) (dw_or1 (dt_not (dt_chain op_le op_le opD_le opD_le oII0_mono oII0_mono de_int (de_len T.z_len (de_var 0)) (de_glob_int (by rfl) T.c_LONGEST))))).dt (dss_cons (ds_never (Γ' := [.sh]))
  dss_nil) dss_nil)
  dss_nil)
theorem ok_plus_sums (T : Ev K mg) : FnOk P w K mg base (L2.CX P w) 4 T.a_plus_sums T.fd_plus_sums ["one", "other"] (spD K false .pu f_plus_sums) :=
  fn_dl (N := N_plus_sums) (k := 3) (Γ' := [.sh, .sh, .sh, .sh]) (v := b_plus_sums) T.F_plus_sums sc_plus_sums h_plus_sums (by decide) fun cdv A outer s H E c hr =>
  (dss_cons (ds_expr (de_call (ok_need_sum T) m_need_sum (hr.mono (by decide)) (by rfl) T.g_need_sum T.F_need_sum.kp T.b_need_sum (takes_of rfl rfl rfl rfl) (da_cons (de_var 0) da_nil)))
  (dss_cons (ds_expr (de_call (ok_need_sum T) m_need_sum (hr.mono (by decide)) (by rfl) T.g_need_sum T.F_need_sum.kp T.b_need_sum (takes_of rfl rfl rfl rfl) (da_cons (de_var 1) da_nil)))
  (dss_cons (ds_if (dt_cmp (op_neD (hu64 hr)) opD_ne oNe_mono (de_len T.z_len (de_var 0)) (de_len T.z_len (de_var 1)) (nomark _)) (dss_cons (ds_never (Γ' := [.sh, .sh, .sh, .sh]))
  dss_nil) dss_nil)
  (dss_cons (ds_ret (Γ' := [.sh, .sh, .sh, .sh]) (de_tuple T.z_tuple (de_lc (own := [("here", 2), ("there", 3)]) ⟨fun _ _ _ _ _ => (dg_tup rfl (dgs_cons (dg_name 2 sc_plus_sums.nd) (dgs_cons (dg_name 3 sc_plus_sums.nd) dgs_nil))), fun _ _ _ _ _ => dts_nil, fun _ _ _ _ _ => (de_bin opR_add opD_add oAdd_mono (de_var 2) (de_var 3)).pu⟩ rfl sc_plus_sums.nd (di_zp T.z_zip (de_var 0) (de_var 1)) (blkOk_by (own := [("here", 2), ("there", 3)]) (N := N_plus_sums) (sc := defScope s_plus_sums) (by decide +kernel)))).pu)
  dss_nil))))
theorem ok_times_sum (T : Ev K mg) : FnOk P w K mg base (L2.CX P w) 4 T.a_times_sum T.fd_times_sum ["by", "one"] (spD K false .pu f_times_sum) :=
  fn_dl (N := N_times_sum) (k := 3) (Γ' := [.sh, .sh, .sh]) (v := b_times_sum) T.F_times_sum sc_times_sum h_times_sum (by decide) fun cdv A outer s H E c hr =>
  (dss_cons (ds_if (dt_not (dt_tru (de_call (ok_is_whole T) m_is_whole (hr.mono (by decide)) (by rfl) T.g_is_whole T.F_is_whole.kp T.b_is_whole (takes_of rfl rfl rfl rfl) (da_cons (de_var 0) da_nil)))) (dss_cons (ds_never (Γ' := [.sh, .sh, .sh]))
  dss_nil) dss_nil)
  (dss_cons (ds_expr (de_call (ok_need_sum T) m_need_sum (hr.mono (by decide)) (by rfl) T.g_need_sum T.F_need_sum.kp T.b_need_sum (takes_of rfl rfl rfl rfl) (da_cons (de_var 1) da_nil)))
  (dss_cons (ds_ret (Γ' := [.sh, .sh, .sh]) (de_tuple T.z_tuple (de_lc (own := [("number", 2)]) ⟨fun _ _ _ _ _ => (dg_name 2 sc_times_sum.nd), fun _ _ _ _ _ => dts_nil, fun _ _ _ _ _ => (de_bin opR_mul opD_mul oMul_mono (de_var 0) (de_var 2)).pu⟩ rfl sc_times_sum.nd (di_sr (de_var 1)) (blkOk_by (own := [("number", 2)]) (N := N_times_sum) (sc := defScope s_times_sum) (by decide +kernel)))).pu)
  dss_nil)))
theorem ok_plain_sum (T : Ev K mg) : FnOk P w K mg base (L2.CX P w) 5 T.a_plain_sum T.fd_plain_sum ["one"] (spD K false .pu f_plain_sum) :=
  fn_dl (N := N_plain_sum) (k := 4) (Γ' := [.sh, .sh, .sh]) (v := b_plain_sum) T.F_plain_sum sc_plain_sum h_plain_sum (by decide) fun cdv A outer s H E c hr =>
  (dss_cons (ds_expr (de_call (ok_need_sum T) m_need_sum (hr.mono (by decide)) (by rfl) T.g_need_sum T.F_need_sum.kp T.b_need_sum (takes_of rfl rfl rfl rfl) (da_cons (de_var 0) da_nil)))
  (dss_cons (ds_set 1 (de_call (ok_common_part T) m_common_part (hr.mono (by decide)) (by rfl) T.g_common_part T.F_common_part.kp T.b_common_part (takes_of rfl rfl rfl rfl) (da_cons (de_sl (de_var 0) do_none (do_some (de_neg de_int))).pu da_nil)) sc_plain_sum.nd)
  (dss_cons (ds_if (dt_cmp (op_eqD (hu64 hr)) opD_eq oEq_mono (de_var 1) de_int (nomark _)) (dss_cons (ds_ret (Γ' := [.sh, .sh, .sh]) (de_bin opR_add opD_add oAdd_mono (de_sl (de_var 0) do_none (do_some (de_neg de_int))) (de_tup (da_cons (de_intc T.z_int (de_cmp op_gt opD_gt oII0_mono (de_ix (de_var 0) (de_neg de_int) (fun _ _ => rfl)) de_int (nomark _))).pu da_nil))).pu)
  dss_nil) dss_nil)
  (dss_cons (ds_ret (Γ' := [.sh, .sh, .sh]) (de_bin opR_add opD_add oAdd_mono (de_tuple T.z_tuple (de_lc (own := [("factor", 2)]) ⟨fun _ _ _ _ _ => (dg_name 2 sc_plain_sum.nd), fun _ _ _ _ _ => dts_nil, fun _ _ _ _ _ => (de_bin opR_fdiv opD_fdiv oII_mono (de_var 2) (de_var 1)).pu⟩ rfl sc_plain_sum.nd (di_sr (de_sl (de_var 0) do_none (do_some (de_neg de_int))).pu) (blkOk_by (own := [("factor", 2)]) (N := N_plain_sum) (sc := defScope s_plain_sum) (by decide +kernel)))) (de_tup (da_cons (de_call (ok_least_part T) m_least_part (hr.mono (by decide)) (by rfl) T.g_least_part T.F_least_part.kp T.b_least_part (takes_of rfl rfl rfl rfl) (da_cons (de_ix (de_var 0) (de_neg de_int) (fun _ _ => rfl)) (da_cons (de_var 1) da_nil))) da_nil))).pu)
  dss_nil))))
theorem ok_need_sums (T : Ev K mg) : FnOk P w K mg base (L2.CX P w) 4 T.a_need_sums T.fd_need_sums ["things"] (spD K false .pu f_need_sums) :=
  fn_dl (N := N_need_sums) (k := 3) (Γ' := [.sh, .sh]) (v := b_need_sums) T.F_need_sums sc_need_sums h_need_sums (by decide) fun cdv A outer s H E c hr =>
  (dss_cons (ds_if (dt_not (dt_tru (de_isi2 (τ := "list") (κ := "tuple") T.z_isinstance (by decide) (by rfl) T.z_list (by decide +kernel) (by decide) (by rfl) T.z_tuple (by decide +kernel) (de_var 0)))) (dss_cons (ds_never (Γ' := [.sh, .sh]))
  dss_nil) dss_nil)
  (dss_cons (ds_for (passes_of rfl) rfl (di_sr (de_var 0)) (dg_name 1 sc_need_sums.nd) (dss_cons (ds_expr (de_call (ok_need_sum T) m_need_sum (hr.mono (by decide)) (by rfl) T.g_need_sum T.F_need_sum.kp T.b_need_sum (takes_of rfl rfl rfl rfl) (da_cons (de_var 1) da_nil)))
  dss_nil))
  dss_nil))
theorem ok_need_alike (T : Ev K mg) : FnOk P w K mg base (L2.CX P w) 1 T.a_need_alike T.fd_need_alike ["sums", "long"] (spD K false .pu f_need_alike) :=
  fn_dl (N := N_need_alike) (k := 0) (Γ' := [.sh, .sh, .sh]) (v := b_need_alike) T.F_need_alike sc_need_alike h_need_alike (by decide) fun cdv A outer s H E c hr =>
  (dss_cons (ds_for (passes_of rfl) rfl (di_sr (de_var 0)) (dg_name 2 sc_need_alike.nd) (dss_cons (ds_if (dt_cmp (op_neD (hu64 hr)) opD_ne oNe_mono (de_len T.z_len (de_var 2)) (de_var 1) (nomark _)) (dss_cons (ds_never (Γ' := [.sh, .sh, .sh]))
  dss_nil) dss_nil)
  dss_nil))
  dss_nil)
theorem ok_need_cast (T : Ev K mg) : FnOk P w K mg base (L2.CX P w) 5 T.a_need_cast T.fd_need_cast ["sums", "at"] (spD K false .pu f_need_cast) :=
  fn_dl (N := N_need_cast) (k := 4) (Γ' := [.sh, .sh]) (v := b_need_cast) T.F_need_cast sc_need_cast h_need_cast (by decide) fun cdv A outer s H E c hr =>
  (dss_cons (ds_expr (de_call (ok_need_sums T) m_need_sums (hr.mono (by decide)) (by rfl) T.g_need_sums T.F_need_sums.kp T.b_need_sums (takes_of rfl rfl rfl rfl) (da_cons (de_var 0) da_nil)))
  (dss_cons (ds_if (dt_cmp (op_eqD (hu64 hr)) opD_eq oEq_mono (de_len T.z_len (de_var 0)) de_int (nomark _)) (dss_cons (ds_never (Γ' := [.sh, .sh]))
  dss_nil) dss_nil)
  (dss_cons (ds_expr (de_call (ok_need_alike T) m_need_alike (hr.mono (by decide)) (by rfl) T.g_need_alike T.F_need_alike.kp T.b_need_alike (takes_of rfl rfl rfl rfl) (da_cons (de_var 0) (da_cons (de_len T.z_len (de_ix (de_var 0) de_int (fun _ _ => rfl))).pu da_nil))))
  (dss_cons (ds_if (dt_not (dt_tru (de_call (ok_is_within T) m_is_within (hr.mono (by decide)) (by rfl) T.g_is_within T.F_is_within.kp T.b_is_within (takes_of rfl rfl rfl rfl) (da_cons (de_var 1) (da_cons de_int (da_cons (de_bin op_sub opD_sub oSub_mono (de_len T.z_len (de_ix (de_var 0) de_int (fun _ _ => rfl))) de_int).pu da_nil)))))) (dss_cons (ds_never (Γ' := [.sh, .sh]))
  dss_nil) dss_nil)
  dss_nil))))
theorem ok_pairs_of (T : Ev K mg) : FnOk P w K mg base (L2.CX P w) 1 T.a_pairs_of T.fd_pairs_of ["sums", "at"] (spD K false .fr f_pairs_of) :=
  fn_dl (N := N_pairs_of) (k := 0) (Γ' := [.sh, .sh, .sh, .sh, .ow, .sh, .sh, .sh, .sh]) (v := b_pairs_of) T.F_pairs_of sc_pairs_of h_pairs_of (by decide) fun cdv A outer s H E c hr =>
  (dss_cons (ds_setLc 2 (own := [("place", 6), ("one", 7)]) ⟨fun _ _ _ _ _ => (dg_tup rfl (dgs_cons (dg_name 6 sc_pairs_of.nd) (dgs_cons (dg_name 7 sc_pairs_of.nd) dgs_nil))), fun _ _ _ _ _ => dts_one (dt_cmp op_lt opD_lt oII0_mono (de_ix (de_var 7) (de_var 1) (fun _ _ => rfl)) de_int (nomark _)), fun _ _ _ _ _ => (de_var 6)⟩ rfl sc_pairs_of.nd rfl rfl (sw_true rfl rfl rfl (by decide +kernel)) (di_en T.z_enumerate (de_var 0)) (blkOk_by (own := [("place", 6), ("one", 7)]) (N := N_pairs_of) (sc := defScope s_pairs_of) (by decide +kernel)))
  (dss_cons (ds_setLc 3 (own := [("place", 6), ("one", 7)]) ⟨fun _ _ _ _ _ => (dg_tup rfl (dgs_cons (dg_name 6 sc_pairs_of.nd) (dgs_cons (dg_name 7 sc_pairs_of.nd) dgs_nil))), fun _ _ _ _ _ => dts_one (dt_cmp op_gt opD_gt oII0_mono (de_ix (de_var 7) (de_var 1) (fun _ _ => rfl)) de_int (nomark _)), fun _ _ _ _ _ => (de_var 6)⟩ rfl sc_pairs_of.nd rfl rfl (sw_true rfl rfl rfl (by decide +kernel)) (di_en T.z_enumerate (de_var 0)) (blkOk_by (own := [("place", 6), ("one", 7)]) (N := N_pairs_of) (sc := defScope s_pairs_of) (by decide +kernel)))
  (dss_cons (ds_setO 4 (de_lst da_nil) sc_pairs_of.nd)
  (dss_cons (ds_for (passes_of rfl) rfl (di_sr (de_var 2)) (dg_name 5 sc_pairs_of.nd) (dss_cons (ds_expr (de_extend 4 (de_lc (own := [("high", 8)]) ⟨fun _ _ _ _ _ => (dg_name 8 sc_pairs_of.nd), fun _ _ _ _ _ => dts_nil, fun _ _ _ _ _ => (de_tup (da_cons (de_var 5) (da_cons (de_var 8) da_nil))).pu⟩ rfl sc_pairs_of.nd (di_sr (de_var 3)) (blkOk_by (own := [("high", 8)]) (N := N_pairs_of) (sc := defScope s_pairs_of) (by decide +kernel)))))
  dss_nil))
  (dss_cons (ds_retO (Γ' := [.sh, .sh, .sh, .sh, .ow, .sh, .sh, .sh, .sh]) 4)
  dss_nil)))))
theorem ok_pair_sum (T : Ev K mg) : FnOk P w K mg base (L2.CX P w) 5 T.a_pair_sum T.fd_pair_sum ["low", "high", "at"] (spD K false .pu f_pair_sum) :=
  fn_dl (N := N_pair_sum) (k := 4) (Γ' := [.sh, .sh, .sh]) (v := b_pair_sum) T.F_pair_sum sc_pair_sum h_pair_sum (by decide) fun cdv A outer s H E c hr =>
  (dss_cons (ds_ret (Γ' := [.sh, .sh, .sh]) (de_call (ok_plus_sums T) m_plus_sums (hr.mono (by decide)) (by rfl) T.g_plus_sums T.F_plus_sums.kp T.b_plus_sums (takes_of rfl rfl rfl rfl) (da_cons (de_call (ok_times_sum T) m_times_sum (hr.mono (by decide)) (by rfl) T.g_times_sum T.F_times_sum.kp T.b_times_sum (takes_of rfl rfl rfl rfl) (da_cons (de_ix (de_var 1) (de_var 2) (fun _ _ => rfl)) (da_cons (de_var 0) da_nil))) (da_cons (de_call (ok_times_sum T) m_times_sum (hr.mono (by decide)) (by rfl) T.g_times_sum T.F_times_sum.kp T.b_times_sum (takes_of rfl rfl rfl rfl) (da_cons (de_bin op_sub opD_sub oSub_mono de_int (de_ix (de_var 0) (de_var 2) (fun _ _ => rfl))).pu (da_cons (de_var 1) da_nil))) da_nil))))
  dss_nil)
theorem ok_always_holds (T : Ev K mg) : FnOk P w K mg base (L2.CX P w) 1 T.a_always_holds T.fd_always_holds ["one"] (spD K false .pu f_always_holds) :=
  fn_dl (N := N_always_holds) (k := 0) (Γ' := [.sh]) (v := b_always_holds) T.F_always_holds sc_always_holds h_always_holds (by decide) fun cdv A outer s H E c hr =>
  (dss_cons (ds_ret (Γ' := [.sh]) (de_cmp (op_eqD (hu64 hr)) opD_eq oEq_mono (de_var 0) (de_bin opR_mul opD_mul oMul_mono (de_tup (da_cons de_int da_nil)) (de_len T.z_len (de_var 0))) (nomark _)).pu)
  dss_nil)
theorem ok_cast_away (T : Ev K mg) : FnOk P w K mg base (L2.CX P w) 6 T.a_cast_away T.fd_cast_away ["sums", "at"] (spD K false .fr f_cast_away) :=
  fn_dl (N := N_cast_away) (k := 5) (Γ' := [.sh, .sh, .ow, .sh, .sh, .sh, .sh, .sh]) (v := b_cast_away) T.F_cast_away sc_cast_away h_cast_away (by decide) fun cdv A outer s H E c hr =>
  (dss_cons (ds_expr (de_call (ok_need_cast T) m_need_cast (hr.mono (by decide)) (by rfl) T.g_need_cast T.F_need_cast.kp T.b_need_cast (takes_of rfl rfl rfl rfl) (da_cons (de_var 0) (da_cons (de_var 1) da_nil))))
  (dss_cons (ds_setLcO 2 (own := [("place", 5), ("one", 6)]) ⟨fun _ _ _ _ _ => (dg_tup rfl (dgs_cons (dg_name 5 sc_cast_away.nd) (dgs_cons (dg_name 6 sc_cast_away.nd) dgs_nil))), fun _ _ _ _ _ => dts_one (dt_cmp (op_eqD (hu64 hr)) opD_eq oEq_mono (de_ix (de_var 6) (de_var 1) (fun _ _ => rfl)) de_int (nomark _)), fun _ _ _ _ _ => (de_tup (da_cons (de_call (ok_plain_sum T) m_plain_sum (hr.mono (by decide)) (by rfl) T.g_plain_sum T.F_plain_sum.kp T.b_plain_sum takes0 (da_cons (de_var 6) da_nil)) (da_cons (de_tup (da_cons (de_glob_str (by rfl) T.c_OLD) (da_cons (de_var 5) da_nil))).pu da_nil))).pu⟩ rfl sc_cast_away.nd rfl rfl (sw_true rfl rfl rfl (by decide +kernel)) (di_en T.z_enumerate (de_var 0)) (blkOk_by (own := [("place", 5), ("one", 6)]) (N := N_cast_away) (sc := defScope s_cast_away) (by decide +kernel)))
  (dss_cons (ds_for (passes_of rfl) rfl (di_sr (de_call (ok_pairs_of T) m_pairs_of (hr.mono (by decide)) (by rfl) T.g_pairs_of T.F_pairs_of.kp T.b_pairs_of (takes_of rfl rfl rfl rfl) (da_cons (de_var 0) (da_cons (de_var 1) da_nil))).pu) (dg_tup rfl (dgs_cons (dg_name 3 sc_cast_away.nd) (dgs_cons (dg_name 4 sc_cast_away.nd) dgs_nil))) (dss_cons (ds_expr (de_append 2 (de_tup (da_cons (de_call (ok_plain_sum T) m_plain_sum (hr.mono (by decide)) (by rfl) T.g_plain_sum T.F_plain_sum.kp T.b_plain_sum (takes_of rfl rfl rfl rfl) (da_cons (de_call (ok_pair_sum T) m_pair_sum (hr.mono (by decide)) (by rfl) T.g_pair_sum T.F_pair_sum.kp T.b_pair_sum (takes_of rfl rfl rfl rfl) (da_cons (de_ix (de_var 0) (de_var 3) (fun _ _ => rfl)) (da_cons (de_ix (de_var 0) (de_var 4) (fun _ _ => rfl)) (da_cons (de_var 1) da_nil)))) da_nil)) (da_cons (de_tup (da_cons (de_glob_str (by rfl) T.c_PAIR) (da_cons (de_var 3) (da_cons (de_var 4) da_nil)))).pu da_nil))).pu))
  dss_nil))
  (dss_cons (ds_retF (Γ' := [.sh, .sh, .ow, .sh, .sh, .sh, .sh, .sh]) (de_lc (own := [("row", 7)]) ⟨fun _ _ _ _ _ => (dg_name 7 sc_cast_away.nd), fun _ _ _ _ _ => dts_one (dt_not (dt_tru (de_call (ok_always_holds T) m_always_holds (hr.mono (by decide)) (by rfl) T.g_always_holds T.F_always_holds.kp T.b_always_holds takes0 (da_cons (de_ix (de_var 7) de_int (fun _ _ => rfl)) da_nil)))), fun _ _ _ _ _ => (de_var 7)⟩ rfl sc_cast_away.nd (di_sr (de_varR 2)) (blkOk_by (own := [("row", 7)]) (N := N_cast_away) (sc := defScope s_cast_away) (by decide +kernel))))
  dss_nil))))
theorem ok_law_cell_at (T : Ev K mg) : FnOk P w K mg base (L2.CX P w) 1 T.a_law_cell_at T.fd_law_cell_at ["_law_script", "_law_k"] (spD K false .pu f_law_cell_at) :=
  fn_dl (N := N_law_cell_at) (k := 0) (Γ' := [.sh, .sh]) (v := b_law_cell_at) T.F_law_cell_at sc_law_cell_at h_law_cell_at (by decide) fun cdv A outer s H E c hr =>
  (dss_cons (ds_if (dt_cmp op_lt opD_lt oII0_mono (de_var 1) (de_len T.z_len (de_var 0)) (nomark _)) (dss_cons (ds_ret (Γ' := [.sh, .sh]) (de_ix (de_var 0) (de_var 1) (fun _ _ => rfl)))
  dss_nil) dss_nil)
  (dss_cons (ds_ret (Γ' := [.sh, .sh]) (de_bin opR_add opD_add oAdd_mono (de_bin opR_mul opD_mul oMul_mono de_int (de_var 1)) de_int).pu)
  dss_nil))
theorem ok_law_box (T : Ev K mg) : FnOk P w K mg base (L2.CX P w) 1 T.a_law_box T.fd_law_box ["_law_cell"] (spD K false .fr f_law_box) :=
  fn_dl (N := N_law_box) (k := 0) (Γ' := [.sh]) (v := b_law_box) T.F_law_box sc_law_box h_law_box (by decide) fun cdv A outer s H E c hr =>
  (dss_cons (ds_if (dt_cmp op_ge opD_ge oII0_mono (de_var 0) (de_bin op_pow opD_pow oII_mono de_int de_int) (nomark _)) (dss_cons (ds_retF (Γ' := [.sh]) (de_lst (da_cons (de_var 0) (da_cons (de_bin op_modN opD_mod oII_mono (de_var 0) de_int).pu (da_cons de_int da_nil)))))
  dss_nil) dss_nil)
  (dss_cons (ds_retF (Γ' := [.sh]) (de_lst (da_cons de_int (da_cons (de_bin op_modN opD_mod oII_mono (de_var 0) de_int).pu (da_cons de_int da_nil)))))
  dss_nil))
theorem ok_law_take (T : Ev K mg) : FnOk P w K mg base (L2.CX P w) 1 T.a_law_take T.fd_law_take ["_law_box_here", "_law_many"] (spD K true .pu f_law_take) :=
  fn_dl (N := N_law_take) (k := 0) (Γ' := [.io, .sh, .sh, .sh]) (v := b_law_take) T.F_law_take sc_law_take h_law_take (by decide) fun cdv A outer s H E c hr =>
  (dss_cons (ds_if (dt_cmp op_gt opD_gt oII0_mono (de_ix (de_varR 0) de_int (fun _ _ => rfl)) de_int (nomark _)) (dss_cons (ds_set 3 (de_bin op_modN opD_mod oII_mono (de_ix (de_varR 0) de_int (fun _ _ => rfl)) (de_var 1)).pu sc_law_take.nd)
  (dss_cons (ds_setI 0 (de_bin opR_fdiv opD_fdiv oII_mono (de_ix (de_varR 0) de_int (fun _ _ => rfl)) (de_var 1)).pu de_int)
  (dss_cons (ds_ret (Γ' := [.io, .sh, .sh, .sh]) (de_var 3))
  dss_nil))) dss_nil)
  (dss_cons (ds_setI 0 (de_bin opR_add opD_add oAdd_mono (de_ix (de_varR 0) de_int (fun _ _ => rfl)) de_int).pu de_int)
  (dss_cons (ds_set 2 (de_bin op_modN opD_mod oII_mono (de_bin opR_add opD_add oAdd_mono (de_bin opR_add opD_add oAdd_mono (de_bin opR_mul opD_mul oMul_mono (de_ix (de_varR 0) de_int (fun _ _ => rfl)) (de_bin opR_add opD_add oAdd_mono de_int (de_bin opR_mul opD_mul oMul_mono de_int (de_ix (de_varR 0) de_int (fun _ _ => rfl))))) (de_bin opR_mul opD_mul oMul_mono de_int (de_ix (de_varR 0) de_int (fun _ _ => rfl)))) de_int) de_int).pu sc_law_take.nd)
  (dss_cons (ds_ret (Γ' := [.io, .sh, .sh, .sh]) (de_bin op_modN opD_mod oII_mono (de_bin opR_fdiv opD_fdiv oII_mono (de_bin op_modN opD_mod oII_mono (de_bin op_pow opD_pow oII_mono (de_var 2) de_int) de_int) de_int) (de_var 1)).pu)
  dss_nil))))
theorem ok_law_worth (T : Ev K mg) : FnOk P w K mg base (L2.CX P w) 1 T.a_law_worth T.fd_law_worth ["_law_one", "_law_point"] (spD K false .pu f_law_worth) :=
  fn_dl (N := N_law_worth) (k := 0) (Γ' := [.sh, .sh, .sh, .sh, .sh]) (v := b_law_worth) T.F_law_worth sc_law_worth h_law_worth (by decide) fun cdv A outer s H E c hr =>
  (dss_cons (ds_set 2 (de_ix (de_var 0) (de_len T.z_len (de_var 1)) (fun _ _ => rfl)) sc_law_worth.nd)
  (dss_cons (ds_for (passes_of rfl) rfl (di_en T.z_enumerate (de_var 1)) (dg_tup rfl (dgs_cons (dg_name 3 sc_law_worth.nd) (dgs_cons (dg_name 4 sc_law_worth.nd) dgs_nil))) (dss_cons (ds_set 2 (de_bin opR_add opD_add oAdd_mono (de_var 2) (de_bin opR_mul opD_mul oMul_mono (de_ix (de_var 0) (de_var 3) (fun _ _ => rfl)) (de_var 4))).pu sc_law_worth.nd)
  dss_nil))
  (dss_cons (ds_ret (Γ' := [.sh, .sh, .sh, .sh, .sh]) (de_var 2))
  dss_nil)))
theorem ok_law_plain (T : Ev K mg) : FnOk P w K mg base (L2.CX P w) 1 T.a_law_plain T.fd_law_plain ["_law_one"] (spD K false .pu f_law_plain) :=
  fn_dl (N := N_law_plain) (k := 0) (Γ' := [.sh, .sh, .sh, .sh, .sh]) (v := b_law_plain) T.F_law_plain sc_law_plain h_law_plain (by decide) fun cdv A outer s H E c hr =>
  (dss_cons (ds_set 1 de_int sc_law_plain.nd)
  (dss_cons (ds_for (passes_of rfl) rfl (di_sr (de_sl (de_var 0) do_none (do_some (de_neg de_int))).pu) (dg_name 2 sc_law_plain.nd) (dss_cons (ds_par 3 4 rfl sc_law_plain.nd rfl rfl (by decide) rfl rfl (da_cons (de_var 1) (da_cons (de_abs T.z_abs (de_var 2)).pu da_nil)) (by rfl))
  (dss_cons (ds_while (passes_of rfl) (dt_cmp op_gt opD_gt oII0_mono (de_var 4) de_int (nomark _)) (dss_cons (ds_par 3 4 rfl sc_law_plain.nd rfl rfl (by decide) rfl rfl (da_cons (de_var 4) (da_cons (de_bin op_sub opD_sub oSub_mono (de_var 3) (de_bin opR_mul opD_mul oMul_mono (de_bin opR_fdiv opD_fdiv oII_mono (de_var 3) (de_var 4)) (de_var 4))).pu da_nil)) (by rfl))
  dss_nil))
  (dss_cons (ds_set 1 (de_var 3) sc_law_plain.nd)
  dss_nil))))
  (dss_cons (ds_if (dt_cmp (op_eqD (hu64 hr)) opD_eq oEq_mono (de_var 1) de_int (nomark _)) (dss_cons (ds_ret (Γ' := [.sh, .sh, .sh, .sh, .sh]) (de_bin opR_add opD_add oAdd_mono (de_sl (de_var 0) do_none (do_some (de_neg de_int))) (de_tup (da_cons (de_intc T.z_int (de_cmp op_gt opD_gt oII0_mono (de_ix (de_var 0) (de_neg de_int) (fun _ _ => rfl)) de_int (nomark _))).pu da_nil))).pu)
  dss_nil) dss_nil)
  (dss_cons (ds_ret (Γ' := [.sh, .sh, .sh, .sh, .sh]) (de_bin opR_add opD_add oAdd_mono (de_tuple T.z_tuple (de_lc (own := [("_law_factor", 2)]) ⟨fun _ _ _ _ _ => (dg_name 2 sc_law_plain.nd), fun _ _ _ _ _ => dts_nil, fun _ _ _ _ _ => (de_bin opR_fdiv opD_fdiv oII_mono (de_var 2) (de_var 1)).pu⟩ rfl sc_law_plain.nd (di_sr (de_sl (de_var 0) do_none (do_some (de_neg de_int))).pu) (blkOk_by (own := [("_law_factor", 2)]) (N := N_law_plain) (sc := defScope s_law_plain) (by decide +kernel)))) (de_tup (da_cons (de_bin op_sub opD_sub oSub_mono de_int (de_bin opR_fdiv opD_fdiv oII_mono (de_bin op_sub opD_sub oSub_mono de_int (de_ix (de_var 0) (de_neg de_int) (fun _ _ => rfl))) (de_var 1))).pu da_nil))).pu)
  dss_nil))))
theorem ok_law_sums (T : Ev K mg) : FnOk P w K mg base (L2.CX P w) 2 T.a_law_sums T.fd_law_sums ["_law_box_here", "_law_size", "_law_many"] (spD K true .fr f_law_sums) :=
  fn_dl (N := N_law_sums) (k := 1) (Γ' := [.io, .sh, .sh, .ow, .sh, .sh, .sh, .sh, .sh]) (v := b_law_sums) T.F_law_sums sc_law_sums h_law_sums (by decide) fun cdv A outer s H E c hr =>
  (dss_cons (ds_setO 3 (de_lst da_nil) sc_law_sums.nd)
  (dss_cons (ds_set 4 (de_ix (de_lst (da_cons de_int (da_cons de_int (da_cons de_int da_nil)))) (de_callIo 0 (ok_law_take T) m_law_take (hr.mono (by decide)) (by rfl) T.g_law_take T.F_law_take.kp T.b_law_take (takes_of rfl rfl rfl rfl) (by rfl) (by first | exact Or.inl rfl | exact Or.inr (Or.inl rfl) | exact Or.inr (Or.inr rfl)) (by decide) (da_cons de_int da_nil)) (fun _ _ => rfl)) sc_law_sums.nd)
  (dss_cons (ds_for (passes_of rfl) rfl (di_range1 T.z_range (de_var 2)) (dg_name 5 sc_law_sums.nd) (dss_cons (ds_setLc 6 (own := [("_law_place", 7)]) ⟨fun _ _ _ _ _ => (dg_name 7 sc_law_sums.nd), fun _ _ _ _ _ => dts_nil, fun _ _ _ _ _ => (de_bin op_sub opD_sub oSub_mono (de_callIo 0 (ok_law_take T) m_law_take (hr.mono (by decide)) (by rfl) T.g_law_take T.F_law_take.kp T.b_law_take takes0 (by rfl) (by first | exact Or.inl rfl | exact Or.inr (Or.inl rfl) | exact Or.inr (Or.inr rfl)) (by decide) (da_cons (de_var 4) da_nil)) (de_bin opR_fdiv opD_fdiv oII_mono (de_var 4) de_int)).pu⟩ rfl sc_law_sums.nd rfl rfl (sw_true rfl rfl rfl (by decide +kernel)) (di_range1 T.z_range (de_var 1)) (blkOk_by (own := [("_law_place", 7)]) (N := N_law_sums) (sc := defScope s_law_sums) (by decide +kernel)))
  (dss_cons (ds_if (dt_cmp (op_eqD (hu64 hr)) opD_eq oEq_mono (de_callIo 0 (ok_law_take T) m_law_take (hr.mono (by decide)) (by rfl) T.g_law_take T.F_law_take.kp T.b_law_take (takes_of rfl rfl rfl rfl) (by rfl) (by first | exact Or.inl rfl | exact Or.inr (Or.inl rfl) | exact Or.inr (Or.inr rfl)) (by decide) (da_cons de_int da_nil)) de_int (nomark _)) (dss_cons (ds_setLc 6 (own := [("_law_factor", 8)]) ⟨fun _ _ _ _ _ => (dg_name 8 sc_law_sums.nd), fun _ _ _ _ _ => dts_nil, fun _ _ _ _ _ => de_int⟩ rfl sc_law_sums.nd rfl rfl (sw_true rfl rfl rfl (by decide +kernel)) (di_sr (de_var 6)) (blkOk_by (own := [("_law_factor", 8)]) (N := N_law_sums) (sc := defScope s_law_sums) (by decide +kernel)))
  dss_nil) dss_nil)
  (dss_cons (ds_expr (de_append 3 (de_tuple T.z_tuple (de_bin opR_add opD_add oAdd_mono (de_var 6) (de_lst (da_cons (de_bin op_sub opD_sub oSub_mono (de_callIo 0 (ok_law_take T) m_law_take (hr.mono (by decide)) (by rfl) T.g_law_take T.F_law_take.kp T.b_law_take (takes_of rfl rfl rfl rfl) (by rfl) (by first | exact Or.inl rfl | exact Or.inr (Or.inl rfl) | exact Or.inr (Or.inr rfl)) (by decide) (da_cons de_int da_nil)) de_int).pu da_nil)))).pu))
  dss_nil))))
  (dss_cons (ds_retO (Γ' := [.io, .sh, .sh, .ow, .sh, .sh, .sh, .sh, .sh]) 3)
  dss_nil))))
theorem ok_law_cast (T : Ev K mg) : FnOk P w K mg base (L2.CX P w) 2 T.a_law_cast T.fd_law_cast ["_law_sums_here", "_law_at"] (spD K false .pu f_law_cast) :=
  fn_dl (N := N_law_cast) (k := 1) (Γ' := [.sh, .sh, .ow, .sh, .sh, .sh, .sh, .sh, .sh, .sh, .sh, .sh, .sh, .sh]) (v := b_law_cast) T.F_law_cast sc_law_cast h_law_cast (by decide) fun cdv A outer s H E c hr =>
  (dss_cons (ds_setO 2 (de_lst da_nil) sc_law_cast.nd)
  (dss_cons (ds_for (passes_of rfl) rfl (di_en T.z_enumerate (de_var 0)) (dg_tup rfl (dgs_cons (dg_name 3 sc_law_cast.nd) (dgs_cons (dg_name 4 sc_law_cast.nd) dgs_nil))) (dss_cons (ds_if (dt_cmp (op_eqD (hu64 hr)) opD_eq oEq_mono (de_ix (de_var 4) (de_var 1) (fun _ _ => rfl)) de_int (nomark _)) (dss_cons (ds_expr (de_append 2 (de_tup (da_cons (de_call (ok_law_plain T) m_law_plain (hr.mono (by decide)) (by rfl) T.g_law_plain T.F_law_plain.kp T.b_law_plain (takes_of rfl rfl rfl rfl) (da_cons (de_var 4) da_nil)) (da_cons (de_tup (da_cons de_str (da_cons (de_var 3) da_nil))).pu da_nil))).pu))
  dss_nil) dss_nil)
  dss_nil))
  (dss_cons (ds_setO 5 (de_lst da_nil) sc_law_cast.nd)
  (dss_cons (ds_for (passes_of rfl) rfl (di_en T.z_enumerate (de_var 0)) (dg_tup rfl (dgs_cons (dg_name 6 sc_law_cast.nd) (dgs_cons (dg_name 4 sc_law_cast.nd) dgs_nil))) (dss_cons (ds_for (passes_of rfl) rfl (di_en T.z_enumerate (de_var 0)) (dg_tup rfl (dgs_cons (dg_name 7 sc_law_cast.nd) (dgs_cons (dg_name 8 sc_law_cast.nd) dgs_nil))) (dss_cons (ds_if (dt_chain op_lt op_lt opD_lt opD_lt oII0_mono oII0_mono (de_ix (de_var 4) (de_var 1) (fun _ _ => rfl)) de_int (de_ix (de_var 8) (de_var 1) (fun _ _ => rfl))) (dss_cons (ds_set 9 (de_tuple T.z_tuple (de_lc (own := [("_law_here", 11), ("_law_there", 12)]) ⟨fun _ _ _ _ _ => (dg_tup rfl (dgs_cons (dg_name 11 sc_law_cast.nd) (dgs_cons (dg_name 12 sc_law_cast.nd) dgs_nil))), fun _ _ _ _ _ => dts_nil, fun _ _ _ _ _ => (de_bin op_sub opD_sub oSub_mono (de_bin opR_mul opD_mul oMul_mono (de_ix (de_var 8) (de_var 1) (fun _ _ => rfl)) (de_var 11)) (de_bin opR_mul opD_mul oMul_mono (de_ix (de_var 4) (de_var 1) (fun _ _ => rfl)) (de_var 12))).pu⟩ rfl sc_law_cast.nd (di_zp T.z_zip (de_var 4) (de_var 8)) (blkOk_by (own := [("_law_here", 11), ("_law_there", 12)]) (N := N_law_cast) (sc := defScope s_law_cast) (by decide +kernel)))).pu sc_law_cast.nd)
  (dss_cons (ds_expr (de_append 5 (de_tup (da_cons (de_var 6) (da_cons (de_var 7) (da_cons (de_var 9) da_nil)))).pu))
  (dss_cons (ds_expr (de_append 2 (de_tup (da_cons (de_call (ok_law_plain T) m_law_plain (hr.mono (by decide)) (by rfl) T.g_law_plain T.F_law_plain.kp T.b_law_plain (takes_of rfl rfl rfl rfl) (da_cons (de_var 9) da_nil)) (da_cons (de_tup (da_cons de_str (da_cons (de_var 6) (da_cons (de_var 7) da_nil)))).pu da_nil))).pu))
  dss_nil))) dss_nil)
  dss_nil))
  dss_nil))
  (dss_frz 5 (dss_cons (ds_ret (Γ' := [.sh, .sh, .ow, .sh, .sh, .sh, .sh, .sh, .sh, .sh, .sh, .sh, .sh, .sh]) (de_tup (da_cons (de_lc (own := [("_law_row", 10)]) ⟨fun _ _ _ _ _ => (dg_name 10 sc_law_cast.nd), fun _ _ _ _ _ => dts_one (dt_cmp (op_neD (hu64 hr)) opD_ne oNe_mono (de_lc (own := [("_law_number", 13)]) ⟨fun _ _ _ _ _ => (dg_name 13 sc_law_cast.nd), fun _ _ _ _ _ => dts_one (dt_cmp (op_neD (hu64 hr)) opD_ne oNe_mono (de_var 13) de_int (nomark _)), fun _ _ _ _ _ => (de_var 13)⟩ rfl sc_law_cast.nd (di_sr (de_ix (de_var 10) de_int (fun _ _ => rfl))) (blkOk_by (own := [("_law_number", 13)]) (by rfl))) (de_lst da_nil) (nomark _)), fun _ _ _ _ _ => (de_var 10)⟩ rfl sc_law_cast.nd (di_sr (de_varR 2)) (blkOk_by (own := [("_law_row", 10)]) (N := N_law_cast) (sc := defScope s_law_cast) (by decide +kernel))).pu (da_cons (de_var 5) da_nil))).pu)
  dss_nil))))))
theorem ok_law_kept (T : Ev K mg) : FnOk P w K mg base (L2.CX P w) 2 T.a_law_kept T.fd_law_kept ["_law_sums_here", "_law_point"] (spD K false .pu f_law_kept) :=
  fn_dl (N := N_law_kept) (k := 1) (Γ' := [.sh, .sh, .sh]) (v := b_law_kept) T.F_law_kept sc_law_kept h_law_kept (by decide) fun cdv A outer s H E c hr =>
  (dss_cons (ds_ret (Γ' := [.sh, .sh, .sh]) (de_cmp (op_eqD (hu64 hr)) opD_eq oEq_mono (de_lc (own := [("_law_one", 2)]) ⟨fun _ _ _ _ _ => (dg_name 2 sc_law_kept.nd), fun _ _ _ _ _ => dts_one (dt_cmp op_gt opD_gt oII0_mono (de_call (ok_law_worth T) m_law_worth (hr.mono (by decide)) (by rfl) T.g_law_worth T.F_law_worth.kp T.b_law_worth takes0 (da_cons (de_var 2) (da_cons (de_var 1) da_nil))) de_int (nomark _)), fun _ _ _ _ _ => (de_var 2)⟩ rfl sc_law_kept.nd (di_sr (de_var 0)) (blkOk_by (own := [("_law_one", 2)]) (N := N_law_kept) (sc := defScope s_law_kept) (by decide +kernel))) (de_lst da_nil) (nomark _)).pu)
  dss_nil)
theorem ok_law_right (T : Ev K mg) : FnOk P w K mg base (L2.CX P w) 7 T.a_law_right T.fd_law_right ["_law_box_here", "_law_sums_here", "_law_at"] (spD K true .pu f_law_right) :=
  fn_dl (N := N_law_right) (k := 6) (Γ' := [.io, .sh, .sh, .sh, .sh, .ow, .ow, .sh, .sh, .sh, .sh]) (v := b_law_right) T.F_law_right sc_law_right h_law_right (by decide) fun cdv A outer s H E c hr =>
  (dss_cons (ds_asg (de_call (ok_law_cast T) m_law_cast (hr.mono (by decide)) (by rfl) T.g_law_cast T.F_law_cast.kp T.b_law_cast (takes_of rfl rfl rfl rfl) (da_cons (de_var 1) (da_cons (de_var 2) da_nil))) (dg_tup rfl (dgs_cons (dg_name 3 sc_law_right.nd) (dgs_cons (dg_name 4 sc_law_right.nd) dgs_nil))))
  (dss_cons (ds_setO 5 (de_pick (de_list T.z_list (de_var 1)) (de_tuple T.z_tuple (de_var 1)) (de_callIo 0 (ok_law_take T) m_law_take (hr.mono (by decide)) (by rfl) T.g_law_take T.F_law_take.kp T.b_law_take (takes_of rfl rfl rfl rfl) (by rfl) (by first | exact Or.inl rfl | exact Or.inr (Or.inl rfl) | exact Or.inr (Or.inr rfl)) (by decide) (da_cons de_int da_nil)) (fun _ _ => rfl)) sc_law_right.nd)
  (dss_cons (ds_setO 6 (de_callL 5 (ok_cast_away T) m_cast_away (hr.mono (by decide)) (by rfl) T.g_cast_away T.F_cast_away.kp T.b_cast_away (takes_of rfl rfl rfl rfl) (da_cons (de_var 2) da_nil)) sc_law_right.nd)
  (dss_cons (ds_if (dw_or (dt_not (dt_tru (de_isi (τ := "list") T.z_isinstance (by decide) (by rfl) T.z_list (by decide +kernel) (de_varR 6)))) (dw_or (dt_cmp (op_neD (hu64 hr)) opD_ne oNe_mono (de_varR 6) (de_var 3) (nomark _)) (dw_or1 (dt_cmp (op_neD (hu64 hr)) opD_ne oNe_mono (de_list T.z_list (de_varR 5)) (de_var 1) (nomark _))))).dt (dss_cons (ds_ret (Γ' := [.io, .sh, .sh, .sh, .sh, .ow, .ow, .sh, .sh, .sh, .sh]) de_bl)
  dss_nil) dss_nil)
  (dss_cons (ds_if (dt_cmp (op_neD (hu64 hr)) opD_ne oNe_mono (de_lc (own := [("_law_row", 9)]) ⟨fun _ _ _ _ _ => (dg_name 9 sc_law_right.nd), fun _ _ _ _ _ => dts_one (dw_or (dt_not (dt_tru (de_isi (τ := "tuple") T.z_isinstance (by decide) (by rfl) T.z_tuple (by decide +kernel) (de_ix (de_var 9) de_int (fun _ _ => rfl))))) (dw_or1 (dt_not (dt_tru (de_isi (τ := "tuple") T.z_isinstance (by decide) (by rfl) T.z_tuple (by decide +kernel) (de_ix (de_var 9) de_int (fun _ _ => rfl))))))).dt, fun _ _ _ _ _ => (de_var 9)⟩ rfl sc_law_right.nd (di_sr (de_varR 6)) (blkOk_by (own := [("_law_row", 9)]) (N := N_law_right) (sc := defScope s_law_right) (by decide +kernel))) (de_lst da_nil) (nomark _)) (dss_cons (ds_ret (Γ' := [.io, .sh, .sh, .sh, .sh, .ow, .ow, .sh, .sh, .sh, .sh]) de_bl)
  dss_nil) dss_nil)
  (dss_cons (ds_expr (de_append 6 de_non))
  (dss_cons (ds_expr (de_reverse 6))
  (dss_cons (ds_if (dt_tru (de_isi (τ := "list") T.z_isinstance (by decide) (by rfl) T.z_list (by decide +kernel) (de_varR 5))) (dss_cons (ds_expr (de_append 5 de_non))
  dss_nil) dss_nil)
  (dss_cons (ds_if (dt_cmp (op_neD (hu64 hr)) opD_ne oNe_mono (de_call (ok_cast_away T) m_cast_away (hr.mono (by decide)) (by rfl) T.g_cast_away T.F_cast_away.kp T.b_cast_away (takes_of rfl rfl rfl rfl) (da_cons (de_var 1) (da_cons (de_var 2) da_nil))) (de_var 3) (nomark _)) (dss_cons (ds_ret (Γ' := [.io, .sh, .sh, .sh, .sh, .ow, .ow, .sh, .sh, .sh, .sh]) de_bl)
  dss_nil) dss_nil)
  (dss_cons (ds_for (passes_of rfl) rfl (di_range1 T.z_range de_int) (dg_name 7 sc_law_right.nd) (dss_cons (ds_set 8 (de_tuple T.z_tuple (de_lc (own := [("_law_factor", 10)]) ⟨fun _ _ _ _ _ => (dg_name 10 sc_law_right.nd), fun _ _ _ _ _ => dts_nil, fun _ _ _ _ _ => (de_bin op_sub opD_sub oSub_mono (de_callIo 0 (ok_law_take T) m_law_take (hr.mono (by decide)) (by rfl) T.g_law_take T.F_law_take.kp T.b_law_take takes0 (by rfl) (by first | exact Or.inl rfl | exact Or.inr (Or.inl rfl) | exact Or.inr (Or.inr rfl)) (by decide) (da_cons de_int da_nil)) de_int).pu⟩ rfl sc_law_right.nd (di_sr (de_sl (de_ix (de_var 1) de_int (fun _ _ => rfl)) do_none (do_some (de_neg de_int))).pu) (blkOk_by (own := [("_law_factor", 10)]) (N := N_law_right) (sc := defScope s_law_right) (by decide +kernel)))).pu sc_law_right.nd)
  (dss_cons (ds_if (dw_and (dt_tru (de_call (ok_law_kept T) m_law_kept (hr.mono (by decide)) (by rfl) T.g_law_kept T.F_law_kept.kp T.b_law_kept (takes_of rfl rfl rfl rfl) (da_cons (de_var 1) (da_cons (de_var 8) da_nil)))) (dw_and1 (dt_not (dt_tru (de_call (ok_law_kept T) m_law_kept (hr.mono (by decide)) (by rfl) T.g_law_kept T.F_law_kept.kp T.b_law_kept (takes_of rfl rfl rfl rfl) (da_cons (de_lc (own := [("_law_row", 9)]) ⟨fun _ _ _ _ _ => (dg_name 9 sc_law_right.nd), fun _ _ _ _ _ => dts_nil, fun _ _ _ _ _ => (de_ix (de_var 9) de_int (fun _ _ => rfl))⟩ rfl sc_law_right.nd (di_sr (de_var 3)) (blkOk_by (own := [("_law_row", 9)]) (N := N_law_right) (sc := defScope s_law_right) (by decide +kernel))).pu (da_cons (de_var 8) da_nil))))))).dt (dss_cons (ds_ret (Γ' := [.io, .sh, .sh, .sh, .sh, .ow, .ow, .sh, .sh, .sh, .sh]) de_bl)
  dss_nil) dss_nil)
  dss_nil)))
  (dss_cons (ds_ret (Γ' := [.io, .sh, .sh, .sh, .sh, .ow, .ow, .sh, .sh, .sh, .sh]) de_bl)
  dss_nil)))))))))))
theorem ok_law (T : Ev K mg) : FnOk P w K mg base (L2.CX P w) 8 T.a_law T.fd_law ["_law_script"] (spD K false .pu f_law) :=
  fn_dl (N := N_law) (k := 7) (Γ' := [.sh, .sh, .sh, .sh, .sh, .sh, .sh, .sh]) (v := b_law) T.F_law sc_law h_law (by decide) fun cdv A outer s H E c hr =>
  (dss_cons (ds_for (passes_of rfl) rfl (di_range1 T.z_range (de_max2 rfl T.z_max de_int (de_min2 rfl T.z_min (de_len T.z_len (de_var 0)) de_int))) (dg_name 1 sc_law.nd) (dss_cons (ds_setO 2 (de_call (ok_law_box T) m_law_box (hr.mono (by decide)) (by rfl) T.g_law_box T.F_law_box.kp T.b_law_box (takes_of rfl rfl rfl rfl) (da_cons (de_call (ok_law_cell_at T) m_law_cell_at (hr.mono (by decide)) (by rfl) T.g_law_cell_at T.F_law_cell_at.kp T.b_law_cell_at (takes_of rfl rfl rfl rfl) (da_cons (de_var 0) (da_cons (de_var 1) da_nil))) da_nil)) sc_law.nd)
  (dss_cons (ds_set 3 (de_bin opR_add opD_add oAdd_mono de_int (de_callIo 2 (ok_law_take T) m_law_take (hr.mono (by decide)) (by rfl) T.g_law_take T.F_law_take.kp T.b_law_take (takes_of rfl rfl rfl rfl) (by rfl) (by first | exact Or.inl rfl | exact Or.inr (Or.inl rfl) | exact Or.inr (Or.inr rfl)) (by decide) (da_cons de_int da_nil))).pu sc_law.nd)
  (dss_cons (ds_set 4 (de_bin opR_add opD_add oAdd_mono de_int (de_callIo 2 (ok_law_take T) m_law_take (hr.mono (by decide)) (by rfl) T.g_law_take T.F_law_take.kp T.b_law_take (takes_of rfl rfl rfl rfl) (by rfl) (by first | exact Or.inl rfl | exact Or.inr (Or.inl rfl) | exact Or.inr (Or.inr rfl)) (by decide) (da_cons de_int da_nil))).pu sc_law.nd)
  (dss_cons (ds_if (dt_cmp (op_eqD (hu64 hr)) opD_eq oEq_mono (de_callIo 2 (ok_law_take T) m_law_take (hr.mono (by decide)) (by rfl) T.g_law_take T.F_law_take.kp T.b_law_take (takes_of rfl rfl rfl rfl) (by rfl) (by first | exact Or.inl rfl | exact Or.inr (Or.inl rfl) | exact Or.inr (Or.inr rfl)) (by decide) (da_cons de_int da_nil)) de_int (nomark _)) (dss_cons (ds_asg (de_tup (da_cons de_int (da_cons de_int da_nil))).pu (dg_tup rfl (dgs_cons (dg_name 3 sc_law.nd) (dgs_cons (dg_name 4 sc_law.nd) dgs_nil))))
  dss_nil) dss_nil)
  (dss_cons (ds_set 5 (de_callIo 2 (ok_law_sums T) m_law_sums (hr.mono (by decide)) (by rfl) T.g_law_sums T.F_law_sums.kp T.b_law_sums (takes_of rfl rfl rfl rfl) (by rfl) (by first | exact Or.inl rfl | exact Or.inr (Or.inl rfl) | exact Or.inr (Or.inr rfl)) (by decide) (da_cons (de_var 3) (da_cons (de_var 4) da_nil))).pu sc_law.nd)
  (dss_cons (ds_if (dt_cmp (op_eqD (hu64 hr)) opD_eq oEq_mono (de_callIo 2 (ok_law_take T) m_law_take (hr.mono (by decide)) (by rfl) T.g_law_take T.F_law_take.kp T.b_law_take (takes_of rfl rfl rfl rfl) (by rfl) (by first | exact Or.inl rfl | exact Or.inr (Or.inl rfl) | exact Or.inr (Or.inr rfl)) (by decide) (da_cons de_int da_nil)) de_int (nomark _)) (dss_cons (ds_set 3 de_int sc_law.nd)
  (dss_cons (ds_setLc 5 (own := [("_law_one", 7)]) ⟨fun _ _ _ _ _ => (dg_name 7 sc_law.nd), fun _ _ _ _ _ => dts_nil, fun _ _ _ _ _ => (de_sl (de_var 7) (do_some (de_neg de_int)) do_none).pu⟩ rfl sc_law.nd rfl rfl (sw_true rfl rfl rfl (by decide +kernel)) (di_sr (de_var 5)) (blkOk_by (own := [("_law_one", 7)]) (N := N_law) (sc := defScope s_law) (by decide +kernel)))
  dss_nil)) dss_nil)
  (dss_cons (ds_for (passes_of rfl) rfl (di_range1 T.z_range de_int) (dg_name 6 sc_law.nd) (dss_cons (ds_if (dt_not (dt_tru (de_callIo 2 (ok_law_right T) m_law_right (hr.mono (by decide)) (by rfl) T.g_law_right T.F_law_right.kp T.b_law_right (takes_of rfl rfl rfl rfl) (by rfl) (by first | exact Or.inl rfl | exact Or.inr (Or.inl rfl) | exact Or.inr (Or.inr rfl)) (by decide) (da_cons (de_var 5) (da_cons (de_callIo 2 (ok_law_take T) m_law_take (hr.mono (by decide)) (by rfl) T.g_law_take T.F_law_take.kp T.b_law_take (takes_of rfl rfl rfl rfl) (by rfl) (by first | exact Or.inl rfl | exact Or.inr (Or.inl rfl) | exact Or.inr (Or.inr rfl)) (by decide) (da_cons (de_var 3) da_nil)) da_nil))))) (dss_cons (ds_ret (Γ' := [.sh, .sh, .ow, .sh, .sh, .sh, .sh, .sh]) de_bl)
  dss_nil) dss_nil)
  dss_nil))
  (dss_frz 2 dss_nil)))))))))
  (dss_cons (ds_ret (Γ' := [.sh, .sh, .sh, .sh, .sh, .sh, .sh, .sh]) de_bl)
  dss_nil))
end
end K51
set_option Elab.async false
set_option linter.all false
set_option maxRecDepth 100000
set_option maxHeartbeats 4000000
namespace K51
open PySem PySem.Spec L2 DL
open PyProof.Rows hiding St

theorem law_sp {K : PySem.W.Frag} {H : Hp} {a : Addr} {ns : List Int} (hl : ns.length ≤ 63) (hS : SqL K H a (ns.map V.int)) : spD K false .pu f_law [.ref a] H (fun v _ => v = .bl true) fun _ _ _ => False := by
  refine ⟨⟨H, H, none⟩, [.frz (ns.map D.int)], fun _ _ _ _ => False, fun r _ => r = .bl true, rfl, Same.refl _, ⟨rfl, AtL.cons (by unfold At; exact ⟨a, ns.map V.int, rfl, hS, AtL.of_ints ns⟩) AtL.nil⟩, ⟨ns, rfl, hl, fun r c' hr => hr⟩, fun r c' v H' R' hr _ hv => ?_, fun _ _ _ _ _ _ _ _ z _ _ _ _ => z.elim⟩
  subst hr
  have hv : At K R' (.bl true) v := hv
  unfold At at hv
  exact hv
theorem cx_no {P : Program} {w : World} {H : Hp} {s : Shared} {e : Value} {s' : Shared} (h : L2.CX P w [] H s (fun _ _ _ => False) e s') : False := by
  obtain ⟨_, _, _, _, _, _, _, _, _, _, _, _, z⟩ := h
  exact z
theorem all_mk {l : PySem.W.OpenLaw} {w : World} {K : PySem.W.Frag} {h : Heap} {mg : Str → Option Value} {fa : Addr} (X : K.In h) (G : h.Ns mainGlobals mg) (hfa : mg "law" = some (.ref fa))
    {f0 : Addr} {od0 an0 : Option Addr} {sl0 : Array (Option Value)} {oc0 kV0 dc0 pm0 cd0 ct0 : Value}
    {f1 : Addr} {od1 an1 : Option Addr} {sl1 : Array (Option Value)} {oc1 kV1 dc1 pm1 cd1 ct1 : Value}
    {f2 : Addr} {od2 an2 : Option Addr} {sl2 : Array (Option Value)} {oc2 kV2 dc2 pm2 cd2 ct2 : Value}
    {f3 : Addr} {od3 an3 : Option Addr} {sl3 : Array (Option Value)} {oc3 kV3 dc3 pm3 cd3 ct3 : Value}
    {f4 : Addr} {od4 an4 : Option Addr} {sl4 : Array (Option Value)} {oc4 kV4 dc4 pm4 cd4 ct4 : Value}
    {f5 : Addr} {od5 an5 : Option Addr} {sl5 : Array (Option Value)} {oc5 kV5 dc5 pm5 cd5 ct5 : Value}
    {f6 : Addr} {od6 an6 : Option Addr} {sl6 : Array (Option Value)} {oc6 kV6 dc6 pm6 cd6 ct6 : Value}
    {f7 : Addr} {od7 an7 : Option Addr} {sl7 : Array (Option Value)} {oc7 kV7 dc7 pm7 cd7 ct7 : Value}
    {f8 : Addr} {od8 an8 : Option Addr} {sl8 : Array (Option Value)} {oc8 kV8 dc8 pm8 cd8 ct8 : Value}
    {f9 : Addr} {od9 an9 : Option Addr} {sl9 : Array (Option Value)} {oc9 kV9 dc9 pm9 cd9 ct9 : Value}
    {f10 : Addr} {od10 an10 : Option Addr} {sl10 : Array (Option Value)} {oc10 kV10 dc10 pm10 cd10 ct10 : Value}
    {f11 : Addr} {od11 an11 : Option Addr} {sl11 : Array (Option Value)} {oc11 kV11 dc11 pm11 cd11 ct11 : Value}
    {f12 : Addr} {od12 an12 : Option Addr} {sl12 : Array (Option Value)} {oc12 kV12 dc12 pm12 cd12 ct12 : Value}
    {f13 : Addr} {od13 an13 : Option Addr} {sl13 : Array (Option Value)} {oc13 kV13 dc13 pm13 cd13 ct13 : Value}
    {f14 : Addr} {od14 an14 : Option Addr} {sl14 : Array (Option Value)} {oc14 kV14 dc14 pm14 cd14 ct14 : Value}
    {f15 : Addr} {od15 an15 : Option Addr} {sl15 : Array (Option Value)} {oc15 kV15 dc15 pm15 cd15 ct15 : Value}
    {f16 : Addr} {od16 an16 : Option Addr} {sl16 : Array (Option Value)} {oc16 kV16 dc16 pm16 cd16 ct16 : Value}
    {f17 : Addr} {od17 an17 : Option Addr} {sl17 : Array (Option Value)} {oc17 kV17 dc17 pm17 cd17 ct17 : Value}
    {f18 : Addr} {od18 an18 : Option Addr} {sl18 : Array (Option Value)} {oc18 kV18 dc18 pm18 cd18 ct18 : Value}
    {f19 : Addr} {od19 an19 : Option Addr} {sl19 : Array (Option Value)} {oc19 kV19 dc19 pm19 cd19 ct19 : Value}
    {f20 : Addr} {od20 an20 : Option Addr} {sl20 : Array (Option Value)} {oc20 kV20 dc20 pm20 cd20 ct20 : Value}
    {f21 : Addr} {od21 an21 : Option Addr} {sl21 : Array (Option Value)} {oc21 kV21 dc21 pm21 cd21 ct21 : Value}
    {f22 : Addr} {od22 an22 : Option Addr} {sl22 : Array (Option Value)} {oc22 kV22 dc22 pm22 cd22 ct22 : Value}
    {f23 : Addr} {od23 an23 : Option Addr} {sl23 : Array (Option Value)} {oc23 kV23 dc23 pm23 cd23 ct23 : Value}
    {f24 : Addr} {od24 an24 : Option Addr} {sl24 : Array (Option Value)} {oc24 kV24 dc24 pm24 cd24 ct24 : Value}
    {f25 : Addr} {od25 an25 : Option Addr} {sl25 : Array (Option Value)} {oc25 kV25 dc25 pm25 cd25 ct25 : Value}
    {f26 : Addr} {od26 an26 : Option Addr} {sl26 : Array (Option Value)} {oc26 kV26 dc26 pm26 cd26 ct26 : Value}
    {f27 : Addr} {od27 an27 : Option Addr} {sl27 : Array (Option Value)} {oc27 kV27 dc27 pm27 cd27 ct27 : Value}
    {f28 : Addr} {od28 an28 : Option Addr} {sl28 : Array (Option Value)} {oc28 kV28 dc28 pm28 cd28 ct28 : Value}
    {t_LONGEST : Tok}
    {t_OLD : Tok}
    {t_PAIR : Tok}
    (a0 : PySem.W.nsIn K mainGlobals "is_whole" = some (some (.ref f0))) (l0 : K.lookup f0 = some ⟨oc0, od0, .func (PySem.W.fnOf "is_whole" "is_whole" (defArgs s_is_whole) (defBody s_is_whole) (defScope s_is_whole) .none kV0 dc0 pm0 an0 cd0 ct0), sl0⟩) (c0 : PySem.W.codeIn K cd0 "is_whole" = true) (k0 : PySem.W.keepIn K (.ref f0) = true)
    (a1 : PySem.W.nsIn K mainGlobals "is_within" = some (some (.ref f1))) (l1 : K.lookup f1 = some ⟨oc1, od1, .func (PySem.W.fnOf "is_within" "is_within" (defArgs s_is_within) (defBody s_is_within) (defScope s_is_within) .none kV1 dc1 pm1 an1 cd1 ct1), sl1⟩) (c1 : PySem.W.codeIn K cd1 "is_within" = true) (k1 : PySem.W.keepIn K (.ref f1) = true)
    (a2 : PySem.W.nsIn K mainGlobals "need_whole" = some (some (.ref f2))) (l2 : K.lookup f2 = some ⟨oc2, od2, .func (PySem.W.fnOf "need_whole" "need_whole" (defArgs s_need_whole) (defBody s_need_whole) (defScope s_need_whole) .none kV2 dc2 pm2 an2 cd2 ct2), sl2⟩) (c2 : PySem.W.codeIn K cd2 "need_whole" = true) (k2 : PySem.W.keepIn K (.ref f2) = true)
    (a3 : PySem.W.nsIn K mainGlobals "need_by" = some (some (.ref f3))) (l3 : K.lookup f3 = some ⟨oc3, od3, .func (PySem.W.fnOf "need_by" "need_by" (defArgs s_need_by) (defBody s_need_by) (defScope s_need_by) .none kV3 dc3 pm3 an3 cd3 ct3), sl3⟩) (c3 : PySem.W.codeIn K cd3 "need_by" = true) (k3 : PySem.W.keepIn K (.ref f3) = true)
    (a4 : PySem.W.nsIn K mainGlobals "least_part" = some (some (.ref f4))) (l4 : K.lookup f4 = some ⟨oc4, od4, .func (PySem.W.fnOf "least_part" "least_part" (defArgs s_least_part) (defBody s_least_part) (defScope s_least_part) .none kV4 dc4 pm4 an4 cd4 ct4), sl4⟩) (c4 : PySem.W.codeIn K cd4 "least_part" = true) (k4 : PySem.W.keepIn K (.ref f4) = true)
    (a5 : PySem.W.nsIn K mainGlobals "common_of_two" = some (some (.ref f5))) (l5 : K.lookup f5 = some ⟨oc5, od5, .func (PySem.W.fnOf "common_of_two" "common_of_two" (defArgs s_common_of_two) (defBody s_common_of_two) (defScope s_common_of_two) .none kV5 dc5 pm5 an5 cd5 ct5), sl5⟩) (c5 : PySem.W.codeIn K cd5 "common_of_two" = true) (k5 : PySem.W.keepIn K (.ref f5) = true)
    (a6 : PySem.W.nsIn K mainGlobals "common_part" = some (some (.ref f6))) (l6 : K.lookup f6 = some ⟨oc6, od6, .func (PySem.W.fnOf "common_part" "common_part" (defArgs s_common_part) (defBody s_common_part) (defScope s_common_part) .none kV6 dc6 pm6 an6 cd6 ct6), sl6⟩) (c6 : PySem.W.codeIn K cd6 "common_part" = true) (k6 : PySem.W.keepIn K (.ref f6) = true)
    (a7 : PySem.W.nsIn K mainGlobals "are_wholes" = some (some (.ref f7))) (l7 : K.lookup f7 = some ⟨oc7, od7, .func (PySem.W.fnOf "are_wholes" "are_wholes" (defArgs s_are_wholes) (defBody s_are_wholes) (defScope s_are_wholes) .none kV7 dc7 pm7 an7 cd7 ct7), sl7⟩) (c7 : PySem.W.codeIn K cd7 "are_wholes" = true) (k7 : PySem.W.keepIn K (.ref f7) = true)
    (a8 : PySem.W.nsIn K mainGlobals "need_sum" = some (some (.ref f8))) (l8 : K.lookup f8 = some ⟨oc8, od8, .func (PySem.W.fnOf "need_sum" "need_sum" (defArgs s_need_sum) (defBody s_need_sum) (defScope s_need_sum) .none kV8 dc8 pm8 an8 cd8 ct8), sl8⟩) (c8 : PySem.W.codeIn K cd8 "need_sum" = true) (k8 : PySem.W.keepIn K (.ref f8) = true)
    (a9 : PySem.W.nsIn K mainGlobals "plus_sums" = some (some (.ref f9))) (l9 : K.lookup f9 = some ⟨oc9, od9, .func (PySem.W.fnOf "plus_sums" "plus_sums" (defArgs s_plus_sums) (defBody s_plus_sums) (defScope s_plus_sums) .none kV9 dc9 pm9 an9 cd9 ct9), sl9⟩) (c9 : PySem.W.codeIn K cd9 "plus_sums" = true) (k9 : PySem.W.keepIn K (.ref f9) = true)
    (a10 : PySem.W.nsIn K mainGlobals "times_sum" = some (some (.ref f10))) (l10 : K.lookup f10 = some ⟨oc10, od10, .func (PySem.W.fnOf "times_sum" "times_sum" (defArgs s_times_sum) (defBody s_times_sum) (defScope s_times_sum) .none kV10 dc10 pm10 an10 cd10 ct10), sl10⟩) (c10 : PySem.W.codeIn K cd10 "times_sum" = true) (k10 : PySem.W.keepIn K (.ref f10) = true)
    (a11 : PySem.W.nsIn K mainGlobals "plain_sum" = some (some (.ref f11))) (l11 : K.lookup f11 = some ⟨oc11, od11, .func (PySem.W.fnOf "plain_sum" "plain_sum" (defArgs s_plain_sum) (defBody s_plain_sum) (defScope s_plain_sum) .none kV11 dc11 pm11 an11 cd11 ct11), sl11⟩) (c11 : PySem.W.codeIn K cd11 "plain_sum" = true) (k11 : PySem.W.keepIn K (.ref f11) = true)
    (a12 : PySem.W.nsIn K mainGlobals "need_sums" = some (some (.ref f12))) (l12 : K.lookup f12 = some ⟨oc12, od12, .func (PySem.W.fnOf "need_sums" "need_sums" (defArgs s_need_sums) (defBody s_need_sums) (defScope s_need_sums) .none kV12 dc12 pm12 an12 cd12 ct12), sl12⟩) (c12 : PySem.W.codeIn K cd12 "need_sums" = true) (k12 : PySem.W.keepIn K (.ref f12) = true)
    (a13 : PySem.W.nsIn K mainGlobals "need_alike" = some (some (.ref f13))) (l13 : K.lookup f13 = some ⟨oc13, od13, .func (PySem.W.fnOf "need_alike" "need_alike" (defArgs s_need_alike) (defBody s_need_alike) (defScope s_need_alike) .none kV13 dc13 pm13 an13 cd13 ct13), sl13⟩) (c13 : PySem.W.codeIn K cd13 "need_alike" = true) (k13 : PySem.W.keepIn K (.ref f13) = true)
    (a14 : PySem.W.nsIn K mainGlobals "need_cast" = some (some (.ref f14))) (l14 : K.lookup f14 = some ⟨oc14, od14, .func (PySem.W.fnOf "need_cast" "need_cast" (defArgs s_need_cast) (defBody s_need_cast) (defScope s_need_cast) .none kV14 dc14 pm14 an14 cd14 ct14), sl14⟩) (c14 : PySem.W.codeIn K cd14 "need_cast" = true) (k14 : PySem.W.keepIn K (.ref f14) = true)
    (a15 : PySem.W.nsIn K mainGlobals "pairs_of" = some (some (.ref f15))) (l15 : K.lookup f15 = some ⟨oc15, od15, .func (PySem.W.fnOf "pairs_of" "pairs_of" (defArgs s_pairs_of) (defBody s_pairs_of) (defScope s_pairs_of) .none kV15 dc15 pm15 an15 cd15 ct15), sl15⟩) (c15 : PySem.W.codeIn K cd15 "pairs_of" = true) (k15 : PySem.W.keepIn K (.ref f15) = true)
    (a16 : PySem.W.nsIn K mainGlobals "pair_sum" = some (some (.ref f16))) (l16 : K.lookup f16 = some ⟨oc16, od16, .func (PySem.W.fnOf "pair_sum" "pair_sum" (defArgs s_pair_sum) (defBody s_pair_sum) (defScope s_pair_sum) .none kV16 dc16 pm16 an16 cd16 ct16), sl16⟩) (c16 : PySem.W.codeIn K cd16 "pair_sum" = true) (k16 : PySem.W.keepIn K (.ref f16) = true)
    (a17 : PySem.W.nsIn K mainGlobals "always_holds" = some (some (.ref f17))) (l17 : K.lookup f17 = some ⟨oc17, od17, .func (PySem.W.fnOf "always_holds" "always_holds" (defArgs s_always_holds) (defBody s_always_holds) (defScope s_always_holds) .none kV17 dc17 pm17 an17 cd17 ct17), sl17⟩) (c17 : PySem.W.codeIn K cd17 "always_holds" = true) (k17 : PySem.W.keepIn K (.ref f17) = true)
    (a18 : PySem.W.nsIn K mainGlobals "cast_away" = some (some (.ref f18))) (l18 : K.lookup f18 = some ⟨oc18, od18, .func (PySem.W.fnOf "cast_away" "cast_away" (defArgs s_cast_away) (defBody s_cast_away) (defScope s_cast_away) .none kV18 dc18 pm18 an18 cd18 ct18), sl18⟩) (c18 : PySem.W.codeIn K cd18 "cast_away" = true) (k18 : PySem.W.keepIn K (.ref f18) = true)
    (a19 : PySem.W.nsIn K mainGlobals "_law_cell_at" = some (some (.ref f19))) (l19 : K.lookup f19 = some ⟨oc19, od19, .func (PySem.W.fnOf "_law_cell_at" "_law_cell_at" (defArgs s_law_cell_at) (defBody s_law_cell_at) (defScope s_law_cell_at) .none kV19 dc19 pm19 an19 cd19 ct19), sl19⟩) (c19 : PySem.W.codeIn K cd19 "_law_cell_at" = true) (k19 : PySem.W.keepIn K (.ref f19) = true)
    (a20 : PySem.W.nsIn K mainGlobals "_law_box" = some (some (.ref f20))) (l20 : K.lookup f20 = some ⟨oc20, od20, .func (PySem.W.fnOf "_law_box" "_law_box" (defArgs s_law_box) (defBody s_law_box) (defScope s_law_box) .none kV20 dc20 pm20 an20 cd20 ct20), sl20⟩) (c20 : PySem.W.codeIn K cd20 "_law_box" = true) (k20 : PySem.W.keepIn K (.ref f20) = true)
    (a21 : PySem.W.nsIn K mainGlobals "_law_take" = some (some (.ref f21))) (l21 : K.lookup f21 = some ⟨oc21, od21, .func (PySem.W.fnOf "_law_take" "_law_take" (defArgs s_law_take) (defBody s_law_take) (defScope s_law_take) .none kV21 dc21 pm21 an21 cd21 ct21), sl21⟩) (c21 : PySem.W.codeIn K cd21 "_law_take" = true) (k21 : PySem.W.keepIn K (.ref f21) = true)
    (a22 : PySem.W.nsIn K mainGlobals "_law_worth" = some (some (.ref f22))) (l22 : K.lookup f22 = some ⟨oc22, od22, .func (PySem.W.fnOf "_law_worth" "_law_worth" (defArgs s_law_worth) (defBody s_law_worth) (defScope s_law_worth) .none kV22 dc22 pm22 an22 cd22 ct22), sl22⟩) (c22 : PySem.W.codeIn K cd22 "_law_worth" = true) (k22 : PySem.W.keepIn K (.ref f22) = true)
    (a23 : PySem.W.nsIn K mainGlobals "_law_plain" = some (some (.ref f23))) (l23 : K.lookup f23 = some ⟨oc23, od23, .func (PySem.W.fnOf "_law_plain" "_law_plain" (defArgs s_law_plain) (defBody s_law_plain) (defScope s_law_plain) .none kV23 dc23 pm23 an23 cd23 ct23), sl23⟩) (c23 : PySem.W.codeIn K cd23 "_law_plain" = true) (k23 : PySem.W.keepIn K (.ref f23) = true)
    (a24 : PySem.W.nsIn K mainGlobals "_law_sums" = some (some (.ref f24))) (l24 : K.lookup f24 = some ⟨oc24, od24, .func (PySem.W.fnOf "_law_sums" "_law_sums" (defArgs s_law_sums) (defBody s_law_sums) (defScope s_law_sums) .none kV24 dc24 pm24 an24 cd24 ct24), sl24⟩) (c24 : PySem.W.codeIn K cd24 "_law_sums" = true) (k24 : PySem.W.keepIn K (.ref f24) = true)
    (a25 : PySem.W.nsIn K mainGlobals "_law_cast" = some (some (.ref f25))) (l25 : K.lookup f25 = some ⟨oc25, od25, .func (PySem.W.fnOf "_law_cast" "_law_cast" (defArgs s_law_cast) (defBody s_law_cast) (defScope s_law_cast) .none kV25 dc25 pm25 an25 cd25 ct25), sl25⟩) (c25 : PySem.W.codeIn K cd25 "_law_cast" = true) (k25 : PySem.W.keepIn K (.ref f25) = true)
    (a26 : PySem.W.nsIn K mainGlobals "_law_kept" = some (some (.ref f26))) (l26 : K.lookup f26 = some ⟨oc26, od26, .func (PySem.W.fnOf "_law_kept" "_law_kept" (defArgs s_law_kept) (defBody s_law_kept) (defScope s_law_kept) .none kV26 dc26 pm26 an26 cd26 ct26), sl26⟩) (c26 : PySem.W.codeIn K cd26 "_law_kept" = true) (k26 : PySem.W.keepIn K (.ref f26) = true)
    (a27 : PySem.W.nsIn K mainGlobals "_law_right" = some (some (.ref f27))) (l27 : K.lookup f27 = some ⟨oc27, od27, .func (PySem.W.fnOf "_law_right" "_law_right" (defArgs s_law_right) (defBody s_law_right) (defScope s_law_right) .none kV27 dc27 pm27 an27 cd27 ct27), sl27⟩) (c27 : PySem.W.codeIn K cd27 "_law_right" = true) (k27 : PySem.W.keepIn K (.ref f27) = true)
    (a28 : PySem.W.nsIn K mainGlobals "law" = some (some (.ref f28))) (l28 : K.lookup f28 = some ⟨oc28, od28, .func (PySem.W.fnOf "law" "law" (defArgs s_law) (defBody s_law) (defScope s_law) .none kV28 dc28 pm28 an28 cd28 ct28), sl28⟩) (c28 : PySem.W.codeIn K cd28 "law" = true) (k28 : PySem.W.keepIn K (.ref f28) = true)
    (z_abs : PySem.W.nsIn K mainGlobals "abs" = some none)
    (z_all : PySem.W.nsIn K mainGlobals "all" = some none)
    (z_bool : PySem.W.nsIn K mainGlobals "bool" = some none)
    (z_divmod : PySem.W.nsIn K mainGlobals "divmod" = some none)
    (z_enumerate : PySem.W.nsIn K mainGlobals "enumerate" = some none)
    (z_int : PySem.W.nsIn K mainGlobals "int" = some none)
    (z_isinstance : PySem.W.nsIn K mainGlobals "isinstance" = some none)
    (z_len : PySem.W.nsIn K mainGlobals "len" = some none)
    (z_list : PySem.W.nsIn K mainGlobals "list" = some none)
    (z_max : PySem.W.nsIn K mainGlobals "max" = some none)
    (z_min : PySem.W.nsIn K mainGlobals "min" = some none)
    (z_range : PySem.W.nsIn K mainGlobals "range" = some none)
    (z_tuple : PySem.W.nsIn K mainGlobals "tuple" = some none)
    (z_zip : PySem.W.nsIn K mainGlobals "zip" = some none)
    (c_LONGEST : PySem.W.nsIn K mainGlobals "LONGEST" = some (some (.int 11 t_LONGEST)))
    (c_OLD : PySem.W.nsIn K mainGlobals "OLD" = some (some (.str "old" t_OLD)))
    (c_PAIR : PySem.W.nsIn K mainGlobals "PAIR" = some (some (.str "pair" t_PAIR)))
    : ∃ fd : FuncData, (∀ (s : Shared) (v : Value), BindsTo s fd ⟨[v], []⟩ [("_law_script", v)]) ∧ ∀ base : Heap, K.In base → base.Ns mainGlobals mg → FnOk l.prog w K mg base (L2.CX l.prog w) 8 fa fd ["_law_script"] (spD K false .pu f_law) := by
  have e := hfa.symm.trans (PySem.W.mg_of X G a28)
  cases e
  have F0 := fun_mk (st := s_is_whole) l0 c0 k0
  have b0 := F0.binds (ps := ["thing"]) fun _ _ _ _ _ _ us hl => match us, hl with | [_], _ => rfl
  have F1 := fun_mk (st := s_is_within) l1 c1 k1
  have b1 := F1.binds (ps := ["thing", "low", "high"]) fun _ _ _ _ _ _ us hl => match us, hl with | [_, _, _], _ => rfl
  have F2 := fun_mk (st := s_need_whole) l2 c2 k2
  have b2 := F2.binds (ps := ["thing"]) fun _ _ _ _ _ _ us hl => match us, hl with | [_], _ => rfl
  have F3 := fun_mk (st := s_need_by) l3 c3 k3
  have b3 := F3.binds (ps := ["thing"]) fun _ _ _ _ _ _ us hl => match us, hl with | [_], _ => rfl
  have F4 := fun_mk (st := s_least_part) l4 c4 k4
  have b4 := F4.binds (ps := ["top", "by"]) fun _ _ _ _ _ _ us hl => match us, hl with | [_, _], _ => rfl
  have F5 := fun_mk (st := s_common_of_two) l5 c5 k5
  have b5 := F5.binds (ps := ["one", "other"]) fun _ _ _ _ _ _ us hl => match us, hl with | [_, _], _ => rfl
  have F6 := fun_mk (st := s_common_part) l6 c6 k6
  have b6 := F6.binds (ps := ["numbers"]) fun _ _ _ _ _ _ us hl => match us, hl with | [_], _ => rfl
  have F7 := fun_mk (st := s_are_wholes) l7 c7 k7
  have b7 := F7.binds (ps := ["thing"]) fun _ _ _ _ _ _ us hl => match us, hl with | [_], _ => rfl
  have F8 := fun_mk (st := s_need_sum) l8 c8 k8
  have b8 := F8.binds (ps := ["thing"]) fun _ _ _ _ _ _ us hl => match us, hl with | [_], _ => rfl
  have F9 := fun_mk (st := s_plus_sums) l9 c9 k9
  have b9 := F9.binds (ps := ["one", "other"]) fun _ _ _ _ _ _ us hl => match us, hl with | [_, _], _ => rfl
  have F10 := fun_mk (st := s_times_sum) l10 c10 k10
  have b10 := F10.binds (ps := ["by", "one"]) fun _ _ _ _ _ _ us hl => match us, hl with | [_, _], _ => rfl
  have F11 := fun_mk (st := s_plain_sum) l11 c11 k11
  have b11 := F11.binds (ps := ["one"]) fun _ _ _ _ _ _ us hl => match us, hl with | [_], _ => rfl
  have F12 := fun_mk (st := s_need_sums) l12 c12 k12
  have b12 := F12.binds (ps := ["things"]) fun _ _ _ _ _ _ us hl => match us, hl with | [_], _ => rfl
  have F13 := fun_mk (st := s_need_alike) l13 c13 k13
  have b13 := F13.binds (ps := ["sums", "long"]) fun _ _ _ _ _ _ us hl => match us, hl with | [_, _], _ => rfl
  have F14 := fun_mk (st := s_need_cast) l14 c14 k14
  have b14 := F14.binds (ps := ["sums", "at"]) fun _ _ _ _ _ _ us hl => match us, hl with | [_, _], _ => rfl
  have F15 := fun_mk (st := s_pairs_of) l15 c15 k15
  have b15 := F15.binds (ps := ["sums", "at"]) fun _ _ _ _ _ _ us hl => match us, hl with | [_, _], _ => rfl
  have F16 := fun_mk (st := s_pair_sum) l16 c16 k16
  have b16 := F16.binds (ps := ["low", "high", "at"]) fun _ _ _ _ _ _ us hl => match us, hl with | [_, _, _], _ => rfl
  have F17 := fun_mk (st := s_always_holds) l17 c17 k17
  have b17 := F17.binds (ps := ["one"]) fun _ _ _ _ _ _ us hl => match us, hl with | [_], _ => rfl
  have F18 := fun_mk (st := s_cast_away) l18 c18 k18
  have b18 := F18.binds (ps := ["sums", "at"]) fun _ _ _ _ _ _ us hl => match us, hl with | [_, _], _ => rfl
  have F19 := fun_mk (st := s_law_cell_at) l19 c19 k19
  have b19 := F19.binds (ps := ["_law_script", "_law_k"]) fun _ _ _ _ _ _ us hl => match us, hl with | [_, _], _ => rfl
  have F20 := fun_mk (st := s_law_box) l20 c20 k20
  have b20 := F20.binds (ps := ["_law_cell"]) fun _ _ _ _ _ _ us hl => match us, hl with | [_], _ => rfl
  have F21 := fun_mk (st := s_law_take) l21 c21 k21
  have b21 := F21.binds (ps := ["_law_box_here", "_law_many"]) fun _ _ _ _ _ _ us hl => match us, hl with | [_, _], _ => rfl
  have F22 := fun_mk (st := s_law_worth) l22 c22 k22
  have b22 := F22.binds (ps := ["_law_one", "_law_point"]) fun _ _ _ _ _ _ us hl => match us, hl with | [_, _], _ => rfl
  have F23 := fun_mk (st := s_law_plain) l23 c23 k23
  have b23 := F23.binds (ps := ["_law_one"]) fun _ _ _ _ _ _ us hl => match us, hl with | [_], _ => rfl
  have F24 := fun_mk (st := s_law_sums) l24 c24 k24
  have b24 := F24.binds (ps := ["_law_box_here", "_law_size", "_law_many"]) fun _ _ _ _ _ _ us hl => match us, hl with | [_, _, _], _ => rfl
  have F25 := fun_mk (st := s_law_cast) l25 c25 k25
  have b25 := F25.binds (ps := ["_law_sums_here", "_law_at"]) fun _ _ _ _ _ _ us hl => match us, hl with | [_, _], _ => rfl
  have F26 := fun_mk (st := s_law_kept) l26 c26 k26
  have b26 := F26.binds (ps := ["_law_sums_here", "_law_point"]) fun _ _ _ _ _ _ us hl => match us, hl with | [_, _], _ => rfl
  have F27 := fun_mk (st := s_law_right) l27 c27 k27
  have b27 := F27.binds (ps := ["_law_box_here", "_law_sums_here", "_law_at"]) fun _ _ _ _ _ _ us hl => match us, hl with | [_, _, _], _ => rfl
  have F28 := fun_mk (st := s_law) l28 c28 k28
  have b28 := F28.binds (ps := ["_law_script"]) fun _ _ _ _ _ _ us hl => match us, hl with | [_], _ => rfl
  have T : Ev K mg := ⟨_, _, PySem.W.mg_of X G a0, F0, b0, _, _, PySem.W.mg_of X G a1, F1, b1, _, _, PySem.W.mg_of X G a2, F2, b2, _, _, PySem.W.mg_of X G a3, F3, b3, _, _, PySem.W.mg_of X G a4, F4, b4, _, _, PySem.W.mg_of X G a5, F5, b5, _, _, PySem.W.mg_of X G a6, F6, b6, _, _, PySem.W.mg_of X G a7, F7, b7, _, _, PySem.W.mg_of X G a8, F8, b8, _, _, PySem.W.mg_of X G a9, F9, b9, _, _, PySem.W.mg_of X G a10, F10, b10, _, _, PySem.W.mg_of X G a11, F11, b11, _, _, PySem.W.mg_of X G a12, F12, b12, _, _, PySem.W.mg_of X G a13, F13, b13, _, _, PySem.W.mg_of X G a14, F14, b14, _, _, PySem.W.mg_of X G a15, F15, b15, _, _, PySem.W.mg_of X G a16, F16, b16, _, _, PySem.W.mg_of X G a17, F17, b17, _, _, PySem.W.mg_of X G a18, F18, b18, _, _, PySem.W.mg_of X G a19, F19, b19, _, _, PySem.W.mg_of X G a20, F20, b20, _, _, PySem.W.mg_of X G a21, F21, b21, _, _, PySem.W.mg_of X G a22, F22, b22, _, _, PySem.W.mg_of X G a23, F23, b23, _, _, PySem.W.mg_of X G a24, F24, b24, _, _, PySem.W.mg_of X G a25, F25, b25, _, _, PySem.W.mg_of X G a26, F26, b26, _, _, PySem.W.mg_of X G a27, F27, b27, _, _, PySem.W.mg_of X G a28, F28, b28, PySem.W.mg_none_of X G z_abs, PySem.W.mg_none_of X G z_all, PySem.W.mg_none_of X G z_bool, PySem.W.mg_none_of X G z_divmod, PySem.W.mg_none_of X G z_enumerate, PySem.W.mg_none_of X G z_int, PySem.W.mg_none_of X G z_isinstance, PySem.W.mg_none_of X G z_len, PySem.W.mg_none_of X G z_list, PySem.W.mg_none_of X G z_max, PySem.W.mg_none_of X G z_min, PySem.W.mg_none_of X G z_range, PySem.W.mg_none_of X G z_tuple, PySem.W.mg_none_of X G z_zip, _, PySem.W.mg_of X G c_LONGEST, _, PySem.W.mg_of X G c_OLD, _, PySem.W.mg_of X G c_PAIR⟩
  exact ⟨PySem.W.fnOf "law" "law" (defArgs s_law) (defBody s_law) (defScope s_law) .none kV28 dc28 pm28 an28 cd28 ct28, fun s v => .of_eq rfl, fun base _ _ => ok_law ⟨_, _, PySem.W.mg_of X G a0, F0, b0, _, _, PySem.W.mg_of X G a1, F1, b1, _, _, PySem.W.mg_of X G a2, F2, b2, _, _, PySem.W.mg_of X G a3, F3, b3, _, _, PySem.W.mg_of X G a4, F4, b4, _, _, PySem.W.mg_of X G a5, F5, b5, _, _, PySem.W.mg_of X G a6, F6, b6, _, _, PySem.W.mg_of X G a7, F7, b7, _, _, PySem.W.mg_of X G a8, F8, b8, _, _, PySem.W.mg_of X G a9, F9, b9, _, _, PySem.W.mg_of X G a10, F10, b10, _, _, PySem.W.mg_of X G a11, F11, b11, _, _, PySem.W.mg_of X G a12, F12, b12, _, _, PySem.W.mg_of X G a13, F13, b13, _, _, PySem.W.mg_of X G a14, F14, b14, _, _, PySem.W.mg_of X G a15, F15, b15, _, _, PySem.W.mg_of X G a16, F16, b16, _, _, PySem.W.mg_of X G a17, F17, b17, _, _, PySem.W.mg_of X G a18, F18, b18, _, _, PySem.W.mg_of X G a19, F19, b19, _, _, PySem.W.mg_of X G a20, F20, b20, _, _, PySem.W.mg_of X G a21, F21, b21, _, _, PySem.W.mg_of X G a22, F22, b22, _, _, PySem.W.mg_of X G a23, F23, b23, _, _, PySem.W.mg_of X G a24, F24, b24, _, _, PySem.W.mg_of X G a25, F25, b25, _, _, PySem.W.mg_of X G a26, F26, b26, _, _, PySem.W.mg_of X G a27, F27, b27, _, _, PySem.W.mg_of X G a28, F28, b28, PySem.W.mg_none_of X G z_abs, PySem.W.mg_none_of X G z_all, PySem.W.mg_none_of X G z_bool, PySem.W.mg_none_of X G z_divmod, PySem.W.mg_none_of X G z_enumerate, PySem.W.mg_none_of X G z_int, PySem.W.mg_none_of X G z_isinstance, PySem.W.mg_none_of X G z_len, PySem.W.mg_none_of X G z_list, PySem.W.mg_none_of X G z_max, PySem.W.mg_none_of X G z_min, PySem.W.mg_none_of X G z_range, PySem.W.mg_none_of X G z_tuple, PySem.W.mg_none_of X G z_zip, _, PySem.W.mg_of X G c_LONGEST, _, PySem.W.mg_of X G c_OLD, _, PySem.W.mg_of X G c_PAIR⟩⟩
end K51
open PySem PySem.W PyProof.Rows
set_option maxHeartbeats 0 in
theorem PySem.Challenge.cw_pointrounds_k51_cast_sums_holds : PySem.Challenge.rw_pointrounds_k51_cast_sums.Holds := by
  w_on; o_law; k_head; (case hw => w_witness2)
  k_fill
  refine L2.walk_of (l := PySem.Challenge.rw_pointrounds_k51_cast_sums) (n := 63) (k := 8) (x := "_law_script") (CX := fun w => L2.CX PySem.Challenge.rw_pointrounds_k51_cast_sums.prog w) (sp := fun w => DL.spD _ false .pu K51.f_law) rfl (by decide) rfl ⟨rfl, by decide, by decide⟩ (fun w h Y => PySem.W.kIn_of Y) ?F (fun w H a ns hl hO hS => K51.law_sp hl hS) (fun w H s e s' h => K51.cx_no h)
  case F =>
    intro w mg fa h KX G hmg
    refine' K51.all_mk KX G hmg ?a0 ?l0 ?c0 ?k0 ?a1 ?l1 ?c1 ?k1 ?a2 ?l2 ?c2 ?k2 ?a3 ?l3 ?c3 ?k3 ?a4 ?l4 ?c4 ?k4 ?a5 ?l5 ?c5 ?k5 ?a6 ?l6 ?c6 ?k6 ?a7 ?l7 ?c7 ?k7 ?a8 ?l8 ?c8 ?k8 ?a9 ?l9 ?c9 ?k9 ?a10 ?l10 ?c10 ?k10 ?a11 ?l11 ?c11 ?k11 ?a12 ?l12 ?c12 ?k12 ?a13 ?l13 ?c13 ?k13 ?a14 ?l14 ?c14 ?k14 ?a15 ?l15 ?c15 ?k15 ?a16 ?l16 ?c16 ?k16 ?a17 ?l17 ?c17 ?k17 ?a18 ?l18 ?c18 ?k18 ?a19 ?l19 ?c19 ?k19 ?a20 ?l20 ?c20 ?k20 ?a21 ?l21 ?c21 ?k21 ?a22 ?l22 ?c22 ?k22 ?a23 ?l23 ?c23 ?k23 ?a24 ?l24 ?c24 ?k24 ?a25 ?l25 ?c25 ?k25 ?a26 ?l26 ?c26 ?k26 ?a27 ?l27 ?c27 ?k27 ?a28 ?l28 ?c28 ?k28 ?z_abs ?z_all ?z_bool ?z_divmod ?z_enumerate ?z_int ?z_isinstance ?z_len ?z_list ?z_max ?z_min ?z_range ?z_tuple ?z_zip ?c_LONGEST ?c_OLD ?c_PAIR
    (case a0 => k_is); (case l0 => k_is); (case c0 => k_is); (case k0 => k_is); (case a1 => k_is); (case l1 => k_is)
    (case c1 => k_is); (case k1 => k_is); (case a2 => k_is); (case l2 => k_is); (case c2 => k_is); (case k2 => k_is)
    (case a3 => k_is); (case l3 => k_is); (case c3 => k_is); (case k3 => k_is); (case a4 => k_is); (case l4 => k_is)
    (case c4 => k_is); (case k4 => k_is); (case a5 => k_is); (case l5 => k_is); (case c5 => k_is); (case k5 => k_is)
    (case a6 => k_is); (case l6 => k_is); (case c6 => k_is); (case k6 => k_is); (case a7 => k_is); (case l7 => k_is)
    (case c7 => k_is); (case k7 => k_is); (case a8 => k_is); (case l8 => k_is); (case c8 => k_is); (case k8 => k_is)
    (case a9 => k_is); (case l9 => k_is); (case c9 => k_is); (case k9 => k_is); (case a10 => k_is); (case l10 => k_is)
    (case c10 => k_is); (case k10 => k_is); (case a11 => k_is); (case l11 => k_is); (case c11 => k_is); (case k11 => k_is)
    (case a12 => k_is); (case l12 => k_is); (case c12 => k_is); (case k12 => k_is); (case a13 => k_is); (case l13 => k_is)
    (case c13 => k_is); (case k13 => k_is); (case a14 => k_is); (case l14 => k_is); (case c14 => k_is); (case k14 => k_is)
    (case a15 => k_is); (case l15 => k_is); (case c15 => k_is); (case k15 => k_is); (case a16 => k_is); (case l16 => k_is)
    (case c16 => k_is); (case k16 => k_is); (case a17 => k_is); (case l17 => k_is); (case c17 => k_is); (case k17 => k_is)
    (case a18 => k_is); (case l18 => k_is); (case c18 => k_is); (case k18 => k_is); (case a19 => k_is); (case l19 => k_is)
    (case c19 => k_is); (case k19 => k_is); (case a20 => k_is); (case l20 => k_is); (case c20 => k_is); (case k20 => k_is)
    (case a21 => k_is); (case l21 => k_is); (case c21 => k_is); (case k21 => k_is); (case a22 => k_is); (case l22 => k_is)
    (case c22 => k_is); (case k22 => k_is); (case a23 => k_is); (case l23 => k_is); (case c23 => k_is); (case k23 => k_is)
    (case a24 => k_is); (case l24 => k_is); (case c24 => k_is); (case k24 => k_is); (case a25 => k_is); (case l25 => k_is)
    (case c25 => k_is); (case k25 => k_is); (case a26 => k_is); (case l26 => k_is); (case c26 => k_is); (case k26 => k_is)
    (case a27 => k_is); (case l27 => k_is); (case c27 => k_is); (case k27 => k_is); (case a28 => k_is); (case l28 => k_is)
    (case c28 => k_is); (case k28 => k_is); (case z_abs => k_is); (case z_all => k_is); (case z_bool => k_is); (case z_divmod => k_is)
    (case z_enumerate => k_is); (case z_int => k_is); (case z_isinstance => k_is); (case z_len => k_is); (case z_list => k_is); (case z_max => k_is)
    (case z_min => k_is); (case z_range => k_is); (case z_tuple => k_is); (case z_zip => k_is); (case c_LONGEST => k_is); (case c_OLD => k_is)
    (case c_PAIR => k_is)
